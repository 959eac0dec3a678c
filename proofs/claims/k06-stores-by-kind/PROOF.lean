import PyProof.Rows.All
import Wide.All
import OpenK.AllK
import Wide.FinOn
import HandS.ForMost
import HandS.ForExc
import HandS.Wide
import HandS.Defaults
import HandS.Flow
import HandS.Evl
import HandS.IsInst
import HandS.SetKeys
import HandS.TupAny
import HandS.MakeKwOnly
import HandS.ClsMeth
import HandS.Codes
import HandS.Star
import HandS.Property
import HandS.TryMany
import HandS.ExcField
import HandS.ExcIs
import HandS.ExcInit
import PySem.Challenge.RW_erasedtrails_k06_stores_by_kind
import HandS.SlotsOwn
import HandS.More
import HandS.Head0
import HandS.Head1
import HandS.Head2
import HandS.HeadEnd
import HandS.HeadHook1
import HandS.HeadHook2
import HandS.Ends
import HandS.Words
import KE.KStateDown
import HandS.Style
import KE.KSuper
set_option Elab.async false
set_option linter.all false
set_option maxRecDepth 100000
set_option maxHeartbeats 0
/-! The views: G the part of the heap that stands for good, M the objects that may still change -/
namespace E
open PySem L2 Evl
abbrev MM := List (Addr × (HO → Prop))
structure Vw (M : MM) (G H : Hp) : Prop where
  ex : Ex G H
  mu : ∀ q ∈ M, G q.1 = none ∧ ∃ o, H q.1 = some o ∧ q.2 o
  nd : (M.map (·.1)).Nodup
section
variable {M : MM} {G G' H H' : Hp} {a p : Addr} {o o' : HO} {φ ψ : HO → Prop} {q q' : Addr × (HO → Prop)}
theorem ex_upd {G H : Hp} (e : Ex G H) (p : Addr) (o : HO) : Ex (upd G p o) (upd H p o) := fun b u h => by
  by_cases hb : b = p
  · subst hb
    rw [upd_same] at h ⊢
    exact h
  · rw [upd_ne hb] at h ⊢
    exact e b u h
theorem Vw.free (w : Vw M G H) (h : H p = none) : G p = none := fresh_back w.ex h
theorem Vw.ne (w : Vw M G H) (hq : q ∈ M) (h : H p = none) : q.1 ≠ p := by
  obtain ⟨_, u, e, _⟩ := w.mu q hq
  exact ne_of_none e h
theorem Vw.new (w : Vw M G H) (h : H p = none) : Vw M (upd G p o) (upd H p o) :=
  ⟨ex_upd w.ex p o, fun q hq => by
    obtain ⟨g, u, e, f⟩ := w.mu q hq
    have n := w.ne hq h
    exact ⟨by rw [upd_ne n]; exact g, u, by rw [upd_ne n]; exact e, f⟩, w.nd⟩
theorem Vw.newM (w : Vw M G H) (h : H p = none) (f : φ o) : Vw ((p, φ) :: M) G (upd H p o) :=
  ⟨w.ex.mut (w.free h), fun q hq => by
    rcases List.mem_cons.mp hq with rfl | hq
    · exact ⟨w.free h, o, upd_same, f⟩
    · obtain ⟨g, u, e, f⟩ := w.mu q hq
      exact ⟨g, u, by rw [upd_ne (w.ne hq h)]; exact e, f⟩, by
    rw [List.map_cons, List.nodup_cons]
    exact ⟨fun z => by
      obtain ⟨q, hq, e⟩ := List.mem_map.mp z
      exact w.ne hq h e, w.nd⟩⟩
theorem Vw.get (w : Vw ((a, φ) :: M) G H) : ∃ o, H a = some o ∧ φ o := (w.mu _ List.mem_cons_self).2
theorem Vw.out (w : Vw ((a, φ) :: M) G H) : G a = none := (w.mu _ List.mem_cons_self).1
theorem Vw.put (w : Vw ((a, φ) :: M) G H) (f : ψ o) : Vw ((a, ψ) :: M) G (upd H a o) :=
  ⟨w.ex.mut w.out, fun q hq => by
    rcases List.mem_cons.mp hq with rfl | hq'
    · exact ⟨w.out, o, upd_same, f⟩
    · obtain ⟨g, u, e, f⟩ := w.mu q (List.mem_cons_of_mem _ hq')
      have n := (List.nodup_cons.mp w.nd).1
      exact ⟨g, u, by rw [upd_ne fun z => n (List.mem_map.mpr ⟨q, hq', z⟩)]; exact e, f⟩, w.nd⟩
theorem Vw.imp (w : Vw ((a, φ) :: M) G H) (f : ∀ o, φ o → ψ o) : Vw ((a, ψ) :: M) G H :=
  ⟨w.ex, fun q hq => by
    rcases List.mem_cons.mp hq with rfl | hq
    · obtain ⟨g, u, e, k⟩ := w.mu _ List.mem_cons_self
      exact ⟨g, u, e, f _ k⟩
    · exact w.mu q (List.mem_cons_of_mem _ hq), w.nd⟩
theorem Vw.tail (w : Vw (q :: M) G H) : Vw M G H := ⟨w.ex, fun p hp => w.mu p (List.mem_cons_of_mem _ hp), (List.nodup_cons.mp w.nd).2⟩
theorem Vw.swap (w : Vw (q :: q' :: M) G H) : Vw (q' :: q :: M) G H :=
  ⟨w.ex, fun p hp => w.mu p (by
    rcases List.mem_cons.mp hp with rfl | hp
    · exact List.mem_cons_of_mem _ List.mem_cons_self
    · rcases List.mem_cons.mp hp with rfl | hp
      · exact List.mem_cons_self
      · exact List.mem_cons_of_mem _ (List.mem_cons_of_mem _ hp)), by
    have n := w.nd
    simp only [List.map_cons, List.nodup_cons, List.mem_cons, not_or] at n ⊢
    exact ⟨⟨fun z => n.1.1 z.symm, n.2.1⟩, n.1.2, n.2.2⟩⟩
/-- what may change no more -/
theorem Vw.frz (w : Vw ((a, (· = o)) :: M) G H) : Vw M (upd G a o) H := by
  obtain ⟨u, e, f⟩ := w.get
  have f' : u = o := f
  subst f'
  refine ⟨fun b v h => ?_, fun q hq => ?_, w.tail.nd⟩
  · by_cases hb : b = a
    · subst hb
      rw [upd_same] at h
      cases h
      exact e
    · rw [upd_ne hb] at h
      exact w.ex b v h
  · obtain ⟨g, u, e, f⟩ := w.mu q (List.mem_cons_of_mem _ hq)
    have n := (List.nodup_cons.mp w.nd).1
    exact ⟨by rw [upd_ne fun z => n (List.mem_map.mpr ⟨q, hq, z⟩)]; exact g, u, e, f⟩
theorem Vw.frz_ex (w : Vw ((a, φ) :: M) G H) : Ex G (upd G a o) := Ex.new w.out
theorem Vw.plain (e : Ex G H) : Vw [] G H := ⟨e, (fun _ h => nomatch h), List.nodup_nil⟩
/-- a new object that stands for good -/
theorem new_im {Q : VK} (w : Vw M G H) (k : ∀ (p : Addr) (G' H' : Hp), Ex G G' → G p = none → G' p = some o → Vw M G' H' → Q (.ref p) H') : ∀ p, H p = none → Q (.ref p) (upd H p o) := fun p h =>
  k p (upd G p o) (upd H p o) (Ex.new (w.free h)) (w.free h) upd_same (w.new h)
/-- a new object that may change -/
theorem new_mu {Q : VK} (w : Vw M G H) (k : ∀ (p : Addr) (H' : Hp), G p = none → Vw ((p, (· = o)) :: M) G H' → Q (.ref p) H') : ∀ p, H p = none → Q (.ref p) (upd H p o) := fun p h =>
  k p (upd H p o) (w.free h) (w.newM h rfl)
end
/-! ### the steps of a reading -/
def isB (x : V) (k : Bool → Prop) : Prop := ∃ b, x = .bl b ∧ k b
section
variable {K : PySem.W.Frag} {σ : L2.St} {H : Hp} {D : Ends} {Q : VK} {ta tb tc te : TE} {t u : TS} {tt tu : TT} {R : Bool → Hp → Prop} {i j : Int} {v : V} {b : Bool}
theorem g_seq (h : t { D with nx := u D } σ H) : tSeq t u D σ H := h
theorem g_next (h : D.nx σ H) : tNext D σ H := h
theorem g_asg {g : TG} (h : te σ H fun x H1 => g x σ H1 D.nx) : tAsg te g D σ H := h
theorem g_name {i : Nat} {S : L2.St → Hp → Prop} (h : S (σ.set i (some v)) H) : gName i v σ H S := h
theorem g_ret (h : te σ H D.rt) : tRet te D σ H := h
theorem g_retN (h : D.rt .non H) : tRetN D σ H := h
theorem g_drop (h : te σ H fun _ H1 => D.nx σ H1) : tDrop te D σ H := h
theorem g_ifS (h : tt σ H fun b H1 => if b = true then t D σ H1 else u D σ H1) : tIfS tt t u D σ H := h
theorem g_var {i : Nat} (h : σ[i]? = some (some v)) (q : Q v H) : tVar i σ H Q := ⟨v, h, q⟩
theorem g_c (q : Q v H) : tC v σ H Q := q
theorem g_op {r : R2} (h : ta σ H fun x H1 => tb σ H1 fun y H2 => r x y H2 Q) : tOp r ta tb σ H Q := h
theorem g_un {r : V → Hp → VK → Prop} (h : ta σ H fun x H1 => r x H1 Q) : tUn r ta σ H Q := h
theorem g_test (h : te σ H fun x H1 => isB x fun b => R b H1) : tTest te σ H R := h
theorem g_tB (h : te σ H fun x H1 => isB x fun b => R b H1) : tB te σ H R := h
theorem g_isB {k : Bool → Prop} (h : k b) : isB (.bl b) k := ⟨b, rfl, h⟩
theorem g_and (h : tt σ H fun c H1 => if c = true then tu σ H1 R else R false H1) : tAnd tt tu σ H R := h
theorem g_or (h : tt σ H fun c H1 => if c = true then R true H1 else tu σ H1 R) : tOr tt tu σ H R := h
theorem g_not (h : tt σ H fun c H1 => R (!c) H1) : tNot tt σ H R := h
theorem g_andV (h : ta σ H fun x H1 => isB x fun c => if c = true then tb σ H1 Q else Q (.bl false) H1) : tAndV ta tb σ H Q := h
theorem g_orV (h : ta σ H fun x H1 => isB x fun c => if c = true then Q (.bl true) H1 else tb σ H1 Q) : tOrV ta tb σ H Q := h
theorem g_notV (h : ta σ H fun x H1 => isB x fun c => Q (.bl (!c)) H1) : tNotV ta σ H Q := h
theorem g_if (h : tt σ H fun c H1 => if c = true then ta σ H1 Q else tb σ H1 Q) : tIf tt ta tb σ H Q := h
theorem g_chain {r r' : R2} (h : ta σ H fun x H1 => tb σ H1 fun y H2 => r x y H2 fun z H3 => isB z fun k => if k = true then tc σ H3 fun w' H4 => r' y w' H4 Q else Q (.bl false) H3) : tChain r r' ta tb tc σ H Q := h
theorem g_nil {S : List V → Hp → Prop} (h : S [] H) : tNil σ H S := h
theorem g_cons {tr : TA} {S : List V → Hp → Prop} (h : ta σ H fun x H1 => tr σ H1 fun xs H2 => S (x :: xs) H2) : tCons ta tr σ H S := h
theorem g_cb {r : List V → Hp → VK → Prop} {tr : TA} (h : tr σ H fun vs H1 => r vs H1 Q) : tCB r tr σ H Q := h
theorem g_I0 {g : Int → Int → V} (h : Q (g i j) H) : rI0 g (.int i) (.int j) H Q := ⟨i, j, rfl, rfl, h⟩
theorem g_I {C : Int → Int → Prop} {g : Int → Int → V} (hc : C i j) (h : Q (g i j) H) : rI C g (.int i) (.int j) H Q := ⟨i, j, rfl, rfl, hc, h⟩
theorem g_U {g : Int → V} (h : Q (g i) H) : rU g (.int i) H Q := ⟨i, rfl, h⟩
theorem b_d {p A B : Prop} [Decidable p] (h1 : p → A) (h2 : ¬ p → B) : if decide p = true then A else B := by
  by_cases h : p
  · rw [if_pos (decide_eq_true h)]
    exact h1 h
  · rw [if_neg (by rw [decide_eq_false h]; exact Bool.false_ne_true)]
    exact h2 h
theorem b_n {p A B : Prop} [Decidable p] (h1 : ¬ p → A) (h2 : p → B) : if (!decide p) = true then A else B := by
  by_cases h : p
  · rw [if_neg (by rw [decide_eq_true h]; exact Bool.false_ne_true)]
    exact h2 h
  · rw [if_pos (by rw [decide_eq_false h]; rfl)]
    exact h1 h
theorem b_b {A B : Prop} {c : Bool} (h1 : c = true → A) (h2 : c = false → B) : if c = true then A else B := by
  cases c with
  | true => exact iteT (h1 rfl)
  | false => exact iteF (h2 rfl)
theorem b_nb {A B : Prop} {c : Bool} (h1 : c = false → A) (h2 : c = true → B) : if (!c) = true then A else B := by
  cases c with
  | true => exact iteF (h2 rfl)
  | false => exact iteT (h1 rfl)
theorem b_t {A B : Prop} {c : Bool} (h : c = true) (k : A) : if c = true then A else B := by rw [if_pos h]; exact k
theorem b_f {A B : Prop} {c : Bool} (h : c = false) (k : B) : if c = true then A else B := by rw [if_neg (by rw [h]; exact Bool.false_ne_true)]; exact k
end
/-! ### readings with names -/
section
variable {X : Cx}
def rInt : List V → Hp → VK → Prop := fun xs H Q => (∃ i, xs = [V.int i] ∧ Q (V.int i) H) ∨ ∃ k, xs = [V.bl k] ∧ Q (V.int (if k = true then 1 else 0)) H
theorem call_int : CallR X (.type "int") rInt := call_int1
def rAbs : List V → Hp → VK → Prop := fun xs H Q => ∃ i, xs = [.int i] ∧ Q (.int (if i < 0 then -i else i)) H
theorem call_absR : CallR X (.builtin "abs") rAbs := call_abs
theorem call_lenR : CallR X (.builtin "len") (rLen X.K) := call_len
def rMin : List V → Hp → VK → Prop := fun xs H Q => ∃ i j, xs = [.int i, .int j] ∧ Q (.int (if j < i then j else i)) H
theorem call_min (hc : X.calm = true) : CallR X (.builtin "min") rMin := call_min2 hc
def rMax : List V → Hp → VK → Prop := fun xs H Q => ∃ i j, xs = [.int i, .int j] ∧ Q (.int (if j > i then j else i)) H
theorem call_max (hc : X.calm = true) : CallR X (.builtin "max") rMax := call_max2 hc
def rAddStr : R2 := fun x y H Q => ∃ i j, x = .str i ∧ y = .str j ∧ i.length + j.length ≤ sizeLine ∧ Q (.str (i ++ j)) H
/-- + of ints, texts, lists, tuples -/
def rAddU (K : PySem.W.Frag) : R2 := fun x y H Q => rI0 (fun i j => V.int (i + j)) x y H Q ∨ rAddStr x y H Q ∨ rCat x y H Q ∨ rCatA K x y H Q
theorem op_addU : OpR X (binaryOp .Add) (rAddU X.K) := OpR.or op_add (OpR.or op_add_str (OpR.or op_cat op_catA))
def rLstOf (K : PySem.W.Frag) : List V → Hp → VK → Prop := fun xs H Q => ∃ p ys, xs = [.ref p] ∧ (SqL K H p ys ∨ SqT K H p ys) ∧ ∀ l, H l = none → Q (.ref l) (upd H l (.lst ys))
theorem call_lstOf : CallR X (.type "list") (rLstOf X.K) := call_list_of
def rTupOf (K : PySem.W.Frag) : List V → Hp → VK → Prop := fun xs H Q => ∃ p ys, xs = [.ref p] ∧ ((SqL K H p ys ∧ ∀ l, H l = none → Q (.ref l) (upd H l (.tup ys))) ∨ (SqT K H p ys ∧ Q (.ref p) H))
theorem call_tupOf : CallR X (.type "tuple") (rTupOf X.K) := call_tuple_of
def rNotSign : R2 := fun x y H Q => ∃ (c : Nat) (z : Str), x = .str ⟨#[c]⟩ ∧ y = .str z ∧ Q (.bl (!decide (c ∈ z.cps.toList))) H
theorem op_notSign : OpR X (compareOp .NotIn) rNotSign := op_notIn_sign
def rSign : R2 := fun x y H Q => ∃ (c : Nat) (z : Str), x = .str ⟨#[c]⟩ ∧ y = .str z ∧ Q (.bl (decide (c ∈ z.cps.toList))) H
theorem op_sign : OpR X (compareOp .In) rSign := op_in_sign
theorem op_lt' : OpR X (compareOp .Lt) (rI0 fun i j => .bl (decide (i < j))) := op_lt
end
section
variable {K : PySem.W.Frag} {σ : L2.St} {H G : Hp} {M : MM} {Q : VK} {i j : Int} {v : V} {b : Bool} {x y : Str} {xs ys : List V} {p q : Addr}
theorem g_int (h : Q (.int i) H) : rInt [.int i] H Q := Or.inl ⟨i, rfl, h⟩
theorem g_intB (h : Q (.int (if b = true then 1 else 0)) H) : rInt [.bl b] H Q := Or.inr ⟨b, rfl, h⟩
theorem g_abs (h : Q (.int (if i < 0 then -i else i)) H) : rAbs [.int i] H Q := ⟨i, rfl, h⟩
theorem g_min (h : Q (.int (if j < i then j else i)) H) : rMin [.int i, .int j] H Q := ⟨i, j, rfl, h⟩
theorem g_max (h : Q (.int (if j > i then j else i)) H) : rMax [.int i, .int j] H Q := ⟨i, j, rfl, h⟩
theorem g_lenL (hs : SqL K H p xs) (h : Q (.int xs.length) H) : rLen K [.ref p] H Q := ⟨_, _, rfl, Or.inl ⟨xs, hs, rfl⟩, h⟩
theorem g_lenT (hs : SqT K H p xs) (h : Q (.int xs.length) H) : rLen K [.ref p] H Q := ⟨_, _, rfl, Or.inr ⟨xs, hs, rfl⟩, h⟩
theorem g_lenS (hs : x.length ≤ sizeLine) (h : Q (.int x.length) H) : rLen K [.str x] H Q := ⟨_, _, rfl, ⟨hs, rfl⟩, h⟩
theorem g_addI (h : Q (.int (i + j)) H) : rAddU K (.int i) (.int j) H Q := Or.inl ⟨i, j, rfl, rfl, h⟩
theorem g_addS (hl : x.length + y.length ≤ sizeLine) (h : Q (.str (x ++ y)) H) : rAddU K (.str x) (.str y) H Q := Or.inr (Or.inl ⟨x, y, rfl, rfl, hl, h⟩)
theorem g_addL (h1 : H p = some (.lst xs)) (h2 : H q = some (.lst ys)) (hl : xs.length + ys.length ≤ sizeLine) (h : ∀ p, H p = none → Q (.ref p) (upd H p (.lst (xs ++ ys)))) : rAddU K (.ref p) (.ref q) H Q :=
  Or.inr (Or.inr (Or.inl ⟨p, q, xs, ys, rfl, rfl, h1, h2, hl, h⟩))
theorem g_ixL (hs : SqL K H p xs) (ha : atI xs i = some v) (h : Q v H) : rIx K (.ref p) (.int i) H Q := Or.inl ⟨p, xs, i, v, rfl, rfl, hs, ha, h⟩
theorem g_ixT (hs : SqT K H p xs) (ha : atI xs i = some v) (h : Q v H) : rIx K (.ref p) (.int i) H Q := Or.inr (Or.inl ⟨p, xs, i, v, rfl, rfl, hs, ha, h⟩)
theorem g_ixS {c : Nat} (hs : x.length ≤ sizeLine) (ha : atI x.cps.toList i = some c) (h : Q (.str ⟨#[c]⟩) H) : rIx K (.str x) (.int i) H Q := Or.inr (Or.inr ⟨x, i, c, rfl, rfl, hs, ha, h⟩)
theorem atI_of {α : Type} {xs : List α} {i : Int} {v : α} (h0 : 0 ≤ i) (h : xs[i.toNat]? = some v) : atI xs i = some v := by
  have l : i.toNat < xs.length := by
    obtain ⟨h1, _⟩ := List.getElem?_eq_some_iff.mp h
    exact h1
  unfold atI ixN
  rw [if_pos h0, if_pos (by omega)]
  exact h
end
end E

namespace E
open PySem L2 Evl
def rSubI : R2 := rI0 fun i j => .int (i - j)
def rMulI : R2 := rI CMul fun i j => .int (i * j)
def rModI : R2 := rI (fun _ j => 0 < j) fun i j => .int (i % j)
def rDivI : R2 := rI CDivW fun i j => .int (i / j)
def rPowI : R2 := rI CPow fun i j => .int (i ^ j.toNat)
def rLtI : R2 := rI0 fun i j => .bl (decide (i < j))
def rLeI : R2 := rI0 fun i j => .bl (decide (i ≤ j))
def rGtI : R2 := rI0 fun i j => .bl (decide (j < i))
def rGeI : R2 := rI0 fun i j => .bl (decide (j ≤ i))
def rNegI : V → Hp → VK → Prop := rU fun i => .int (-i)
def rIsNon : R2 := fun x y H Q => y = .non ∧ Q (.bl (decide (x = .non))) H
def rNotNon : R2 := fun x y H Q => y = .non ∧ Q (.bl (!decide (x = .non))) H
def rJoin (K : PySem.W.Frag) : V → List V → Hp → VK → Prop := fun x xs H Q => ∃ a p, ∃ ys : List Str, x = .str a ∧ xs = [.ref p] ∧ (SqL K H p (ys.map V.str) ∨ SqT K H p (ys.map V.str)) ∧ (ys.map (·.length)).sum + ys.length * a.length ≤ 16777216 ∧ Q (.str (Txt.join a ys)) H
def tTru (K : PySem.W.Frag) (ta : TE) : TT := fun σ H Q => ta σ H fun x H' => ∃ k, TruV K x H' k ∧ Q k H'
def rEqU (K : PySem.W.Frag) : R2 := fun x y H Q => rEq x y H Q ∨ rEqD K x y H Q
def rNeU (K : PySem.W.Frag) : R2 := fun x y H Q => rNe x y H Q ∨ rNeD K x y H Q
section
variable {X : Cx} {o e : Expr} {to te : TE}
theorem op_eqU (hu : X.A.units + 64 < cLine) : OpR X (compareOp .Eq) (rEqU X.K) := OpR.or op_eq (op_eqD hu)
theorem op_neU (hu : X.A.units + 64 < cLine) : OpR X (compareOp .NotEq) (rNeU X.K) := OpR.or op_ne (op_neD hu)
theorem pe_joinR {apos pos : Pos} (ho : PE X o to) (he : PE X e te) (hs : starEach [e] X.env = [(false, eval e X.env)] := by rfl) (hbase : attributeBase o "join" X.env (eval o X.env) = eval o X.env := by rfl) (hline : (apos.endLine == pos.line) = true := by rfl) :
    PE X (.Call (.Attribute o "join" apos) [e] [] pos) (tM1 (rJoin X.K) to te) := pe_join ho he hs hbase hline
theorem pe_gc {x : Str} {v : V} {pos : Pos} (hg : Gl X x) (h : ∃ u, X.mg x = some u ∧ RelV v u) (hd : (x == ("__debug__" : Str)) = false := by decide) : PE X (.Name x pos) (tC v) := by
  obtain ⟨u, a, b⟩ := h
  exact pe_glob hg a b hd
end
structure Cal (P : Program) (w : World) (K : PySem.W.Frag) (mg : Str → Option Value) (base : Heap) (k : Nat) (x : Str) (sp : Sp) (dvs : List V) : Prop where
  ex : ∃ (f : Addr) (fd : FuncData) (ps : List Str) (ds : List Value), FnOk P w K mg base CX0 k f fd ps sp ∧ mg x = some (.ref f) ∧ PySem.W.keepIn K (.ref f) = true ∧ Binds K fd ps ds ∧ Vals dvs ds
section
variable {X : Cx} {k j : Nat} {C : Addr} {x m : Str} {sp : Sp} {dvs : List V} {p pos apos : Pos} {e o : Expr} {es : List Expr} {ta : TE} {t : TA}
theorem pe_c (c : Cal X.prog X.w X.K X.mg X.base k x sp dvs) (hr : Room j X.A) (hk : k ≤ j) (hg : Gl X x) (ha : PA X (e :: es) t)
    (hdb : (x == ("__debug__" : Str)) = false := by decide) (he : starEach (e :: es) X.env = (false, eval e X.env) :: starEach es X.env := by rfl) (hpl : (backTo pos (starEach es X.env)).any (·.1) = false := by rfl) :
    PE X (.Call (.Name x p) (e :: es) [] pos) (tCall sp dvs E0 t) := by
  obtain ⟨f, fd, ps, ds, F, hm, kp, b, d⟩ := c.ex
  exact pe_call F (hr.mono hk) hg hm kp b d pass0 ha hdb he hpl
theorem pe_c0 (c : Cal X.prog X.w X.K X.mg X.base k x sp dvs) (hr : Room j X.A) (hk : k ≤ j) (hg : Gl X x) (hdb : (x == ("__debug__" : Str)) = false := by decide) :
    PE X (.Call (.Name x p) [] [] pos) (tCall sp dvs E0 tNil) := by
  obtain ⟨f, fd, ps, ds, F, hm, kp, b, d⟩ := c.ex
  exact pe_call0 F (hr.mono hk) hg hm kp b d pass0 hdb
end
section
variable {K : PySem.W.Frag} {σ : L2.St} {H G : Hp} {M : MM} {Q : VK} {i j : Int} {v : V} {b : Bool} {x y : Str} {xs ys : List V} {p q : Addr} {ta tb te : TE} {R : Bool → Hp → Prop} {D : Ends}
theorem g_subI (h : Q (.int (i - j)) H) : rSubI (.int i) (.int j) H Q := ⟨i, j, rfl, rfl, h⟩
theorem g_mulI (hc : CMul i j) (h : Q (.int (i * j)) H) : rMulI (.int i) (.int j) H Q := ⟨i, j, rfl, rfl, hc, h⟩
theorem g_mulL (hc : -(2 ^ 64) < i ∧ i < 2 ^ 64) (h : Q (.int (i * j)) H) : rMulI (.int i) (.int j) H Q := ⟨i, j, rfl, rfl, Or.inl hc, h⟩
theorem g_mulR (hc : -(2 ^ 64) < j ∧ j < 2 ^ 64) (h : Q (.int (i * j)) H) : rMulI (.int i) (.int j) H Q := ⟨i, j, rfl, rfl, Or.inr hc, h⟩
theorem g_modI (hc : 0 < j) (h : Q (.int (i % j)) H) : rModI (.int i) (.int j) H Q := ⟨i, j, rfl, rfl, hc, h⟩
theorem g_divI (hc : CDivW i j) (h : Q (.int (i / j)) H) : rDivI (.int i) (.int j) H Q := ⟨i, j, rfl, rfl, hc, h⟩
theorem g_powI (hc : CPow i j) (h : Q (.int (i ^ j.toNat)) H) : rPowI (.int i) (.int j) H Q := ⟨i, j, rfl, rfl, hc, h⟩
theorem g_ltI (h : Q (.bl (decide (i < j))) H) : rLtI (.int i) (.int j) H Q := ⟨i, j, rfl, rfl, h⟩
theorem g_leI (h : Q (.bl (decide (i ≤ j))) H) : rLeI (.int i) (.int j) H Q := ⟨i, j, rfl, rfl, h⟩
theorem g_gtI (h : Q (.bl (decide (j < i))) H) : rGtI (.int i) (.int j) H Q := ⟨i, j, rfl, rfl, h⟩
theorem g_geI (h : Q (.bl (decide (j ≤ i))) H) : rGeI (.int i) (.int j) H Q := ⟨i, j, rfl, rfl, h⟩
theorem g_negI (h : Q (.int (-i)) H) : rNegI (.int i) H Q := ⟨i, rfl, h⟩
theorem g_isN (h : Q (.bl (decide (v = .non))) H) : rIsNon v .non H Q := ⟨rfl, h⟩
theorem g_notN (h : Q (.bl (!decide (v = .non))) H) : rNotNon v .non H Q := ⟨rfl, h⟩
theorem g_call {sp : Sp} {dvs : List V} {E : XK} {t : TA} (h : t σ H fun vs H1 => sp (vs ++ dvs) H1 Q E) : tCall sp dvs E t σ H Q := h
/-- a new tuple, a new list -/
def mkT (Q : VK) (xs : List V) (H : Hp) : Prop := xs.length ≤ sizeLine ∧ ∀ p, H p = none → Q (.ref p) (upd H p (.tup xs))
def mkL (Q : VK) (xs : List V) (H : Hp) : Prop := xs.length ≤ sizeLine ∧ ∀ p, H p = none → Q (.ref p) (upd H p (.lst xs))
theorem g_tup {t : TA} (h : t σ H fun xs H1 => mkT Q xs H1) : tTup t σ H Q := h
theorem g_lst {t : TA} (h : t σ H fun xs H1 => mkL Q xs H1) : tLst t σ H Q := h
theorem al_T (w : Vw M G H) (hl : xs.length ≤ 100000) (k : ∀ (p : Addr) (G' H' : Hp), Ex G G' → G p = none → G' p = some (.tup xs) → Vw M G' H' → Q (.ref p) H') : mkT Q xs H := ⟨sz_of hl, new_im w k⟩
theorem al_L (w : Vw M G H) (hl : xs.length ≤ 100000) (k : ∀ (p : Addr) (G' H' : Hp), Ex G G' → G p = none → G' p = some (.lst xs) → Vw M G' H' → Q (.ref p) H') : mkL Q xs H := ⟨sz_of hl, new_im w k⟩
theorem al_Lm (w : Vw M G H) (hl : xs.length ≤ 100000) (k : ∀ (p : Addr) (H' : Hp), G p = none → Vw ((p, (· = .lst xs)) :: M) G H' → Q (.ref p) H') : mkL Q xs H := ⟨sz_of hl, new_mu w k⟩
theorem g_addLw (w : Vw M G H) (h1 : G p = some (.lst xs)) (h2 : G q = some (.lst ys)) (hl : xs.length + ys.length ≤ 100000) (k : ∀ (p : Addr) (G' H' : Hp), Ex G G' → G p = none → G' p = some (.lst (xs ++ ys)) → Vw M G' H' → Q (.ref p) H') : rAddU K (.ref p) (.ref q) H Q :=
  g_addL (w.ex _ _ h1) (w.ex _ _ h2) (sz_of hl) (new_im w k)
theorem g_lstOfL (w : Vw M G H) (h1 : SqL K G p xs) (k : ∀ (p : Addr) (G' H' : Hp), Ex G G' → G p = none → G' p = some (.lst xs) → Vw M G' H' → Q (.ref p) H') : rLstOf K [.ref p] H Q := ⟨p, xs, rfl, Or.inl (ex_l w.ex h1), new_im w k⟩
theorem g_lstOfLm (w : Vw M G H) (h1 : SqL K G p xs) (k : ∀ (p : Addr) (H' : Hp), G p = none → Vw ((p, (· = .lst xs)) :: M) G H' → Q (.ref p) H') : rLstOf K [.ref p] H Q := ⟨p, xs, rfl, Or.inl (ex_l w.ex h1), new_mu w k⟩
theorem g_tupOfL (w : Vw M G H) (h1 : SqL K G p xs) (k : ∀ (p : Addr) (G' H' : Hp), Ex G G' → G p = none → G' p = some (.tup xs) → Vw M G' H' → Q (.ref p) H') : rTupOf K [.ref p] H Q := ⟨p, xs, rfl, Or.inl ⟨ex_l w.ex h1, new_im w k⟩⟩
theorem g_tupOfT (h1 : SqT K H p xs) (k : Q (.ref p) H) : rTupOf K [.ref p] H Q := ⟨p, xs, rfl, Or.inr ⟨h1, k⟩⟩
theorem g_slL {lo hi : Option Int} (w : Vw M G H) (h1 : SqL K G p xs) (k : ∀ (p : Addr) (G' H' : Hp), Ex G G' → G p = none → G' p = some (.lst (cutV xs lo hi)) → Vw M G' H' → Q (.ref p) H') : rSlL K (.ref p) lo hi H Q := ⟨p, xs, rfl, ex_l w.ex h1, new_im w k⟩
theorem g_sub {to ti : TE} {t : TSet} {S : L2.St → Hp → Prop} (h : to σ H fun o H1 => ti σ H1 fun i H2 => t o i v H2 fun H3 => S σ H3) : gSub to ti t v σ H S := h
theorem g_setL {k : Int} {n : Nat} {S : Hp → Prop} (h1 : H p = some (.lst xs)) (h2 : ixN xs.length k = some n) (h : S (upd H p (.lst (xs.set n v)))) : rSetL (.ref p) (.int k) v H S := ⟨p, xs, k, n, rfl, rfl, h1, h2, h⟩
theorem g_par {i j : Nat} {ta : TA} (h : ta σ H fun vs H1 => ∃ v w, vs = [v, w] ∧ D.nx ((σ.set i (some v)).set j (some w)) H1) : tPar i j ta D σ H := h
theorem g_m1 {r : V → List V → Hp → VK → Prop} (h : ta σ H fun x H1 => (∃ a, x = .str a) ∧ te σ H1 fun y H2 => r x [y] H2 Q) : tM1 r ta te σ H Q := h
theorem g_yes (h : R true H) : tYes σ H R := h
theorem g_tru (h : ta σ H fun x H' => ∃ k, TruV K x H' k ∧ R k H') : tTru K ta σ H R := h
theorem g_sl {r : V → Option Int → Option Int → Hp → VK → Prop} {tl th : TO} (h : te σ H fun x H1 => tl σ H1 fun l H2 => th σ H2 fun u H3 => r x l u H3 Q) : L2.tSl r te tl th σ H Q := h
theorem g_noPart {S : Option Int → Hp → Prop} (h : S none H) : tNoPart σ H S := h
end
end E
/-! walks over a list or a tuple -/
namespace E
open PySem PySem.Spec PyProof.Rows L2 Evl
def iSq (K : PySem.W.Frag) (tl : TE) : TI := fun σ H R => tl σ H fun x H1 => ∃ a, x = .ref a ∧ ((∃ xs, SqL K H1 a xs) ∧ R (Itl K a) H1 ∨ (∃ xs, SqT K H1 a xs) ∧ R (Itt K a) H1)
section
variable {X : Cx} {tg : Expr}
theorem pi_sq {l : Expr} {tl : TE} (hl : PE X l tl) : PI X tg l (iSq X.K tl) := by
  refine ⟨fun pins s σ H R I h => ?_⟩
  refine thn (hl.run pins s σ H _ I h) fun v s1 ⟨x, H1, I1, r1, q1⟩ => ?_
  obtain ⟨a, e, q1⟩ := q1
  subst e
  cases r1
  rcases q1 with ⟨⟨xs, hq⟩, q⟩ | ⟨⟨xs, hq⟩, q⟩
  · obtain ⟨its, rv, p, hz⟩ := I1.list hq
    refine wpAny_pyIter_list p.isList ?_
    refine ⟨s1.heap.objs.size, [s1.heap.objs.size], _, _, H1, rfl, I1.kept (t' := s1.toks) fun b o e => Heap.get?_push_of_some _ e, turn_list a _, ⟨_, Heap.get?_push_size _ rfl, rfl, rfl⟩, fun b hb => ?_, q⟩
    have e : b = s1.heap.objs.size := by simpa using hb
    subst e
    exact I1.fpOk (Nat.le_refl _) (I1.hok.fresh (Nat.le_refl _))
  · obtain ⟨its, rv, p, hz⟩ := I1.tuple hq
    refine wpAny_pyIter_tuple (show s1.heap.IsTuple a its.toArray from p) ?_
    refine ⟨s1.heap.objs.size, [s1.heap.objs.size], _, _, H1, rfl, I1.kept (t' := s1.toks) fun b o e => Heap.get?_push_of_some _ e, turn_tuple a _, ⟨_, Heap.get?_push_size _ rfl, rfl, rfl⟩, fun b hb => ?_, q⟩
    have e : b = s1.heap.objs.size := by simpa using hb
    subst e
    exact I1.fpOk (Nat.le_refl _) (I1.hok.fresh (Nat.le_refl _))
end
/-- what stands at a, list or tuple -/
def Sq (K : PySem.W.Frag) (H : Hp) (a : Addr) (xs : List V) : Prop := SqL K H a xs ∨ SqT K H a xs
theorem Sq.ex {K : PySem.W.Frag} {G H : Hp} {a : Addr} {xs : List V} (e : Ex G H) (h : Sq K G a xs) : Sq K H a xs := h.elim (fun h => Or.inl (ex_l e h)) fun h => Or.inr (ex_t e h)
theorem for_sq {K : PySem.W.Frag} {a : Addr} {xs : List V} {g : TG} {tb : TS} {D : Ends} {σ : L2.St} {G H : Hp} (Pv : Nat → L2.St → Hp → Prop) (h0 : Pv 0 σ H) (hq : Sq K G a xs) (hl : ∀ i σ H, Pv i σ H → Ex G H)
    (hs : ∀ i x σ H, xs[i]? = some x → Pv i σ H → g x σ H fun σ2 H2 => tb { D with nx := Pv (i + 1), ct := Pv (i + 1), bk := D.nx } σ2 H2) (hd : ∀ σ H, Pv xs.length σ H → D.nx σ H) :
    ((∃ xs, SqL K H a xs) ∧ (∃ W : Nat → Nat → L2.St → Hp → Prop, (∃ m, W 0 m σ H) ∧ ∀ i m σ H, W i m σ H →
      ((Itl K a).stop i H ∧ D.nx σ H) ∨ ((Itl K a).go i H ∧ ∃ N : L2.St → Hp → Prop, (∀ σ' H', N σ' H' → ∃ m', m' < m ∧ W (i + 1) m' σ' H') ∧ ∀ x H', (Itl K a).yld i H x H' → g x σ H' fun σ2 H2 => tb { D with nx := N, ct := N, bk := D.nx } σ2 H2)) ∨
    (∃ xs, SqT K H a xs) ∧ (∃ W : Nat → Nat → L2.St → Hp → Prop, (∃ m, W 0 m σ H) ∧ ∀ i m σ H, W i m σ H →
      ((Itt K a).stop i H ∧ D.nx σ H) ∨ ((Itt K a).go i H ∧ ∃ N : L2.St → Hp → Prop, (∀ σ' H', N σ' H' → ∃ m', m' < m ∧ W (i + 1) m' σ' H') ∧ ∀ x H', (Itt K a).yld i H x H' → g x σ H' fun σ2 H2 => tb { D with nx := N, ct := N, bk := D.nx } σ2 H2))) := by
  rcases hq with hq | hq
  · exact Or.inl ⟨⟨xs, ex_l (hl _ _ _ h0) hq⟩, for_list Pv h0 (fun i σ H _ p => ex_l (hl i σ H p) hq) hs hd⟩
  · exact Or.inr ⟨⟨xs, ex_t (hl _ _ _ h0) hq⟩, for_tup Pv h0 (fun i σ H _ p => ex_t (hl i σ H p) hq) hs hd⟩
end E

namespace E
open PySem L2 Evl SX
def top (i : Nat) : Stmt := PySem.Challenge.pw_erasedtrails_k06_stores_by_kind.main.body.getD i (.Pass ⟨0, 0, 0, 0⟩)
abbrev Fd (K : PySem.W.Frag) (x : Str) (st : Stmt) (f : Addr) (fd : FuncData) : Prop := FunD K x x (defArgs st) (defBody st) (defScope st) [] [] f fd
def freeNames : List Str := ["int", "len", "abs", "min", "max", "range", "str", "list", "tuple", "bool", "isinstance", "set", "sorted", "all", "any", "enumerate", "repr", "sum", "reversed", "dict", "zip"]
structure Txt (K : PySem.W.Frag) (mg : Str → Option Value) : Prop where
  fr : ∀ (i : Nat) {x : Str}, freeNames[i]? = some x → mg x = none
  letters : ∃ u, mg "LETTERS" = some u ∧ RelV (.str "abcdefghijklmnopqrstuvwxyz") u
  most : ∃ u, mg "MOST" = some u ∧ RelV (.int 8) u
  parts : ∃ u, mg "MOST_PARTS" = some u ∧ RelV (.int 3) u
/-! ### bags -/
/-- a bag's three numbers, with room for n further draws -/
structure BagOk (n : Nat) (d m c : Int) : Prop where
  d0 : 0 ≤ d
  m0 : 0 ≤ m
  m1 : m ≤ 17000000000000000000
  c0 : 0 ≤ c
  c1 : c + n ≤ 100000000000
def BagO (n : Nat) (o : HO) : Prop := ∃ d m c, o = .lst [.int d, .int m, .int c] ∧ BagOk n d m c
theorem BagO.mono {n m : Nat} {o : HO} (h : BagO n o) (le : m ≤ n) : BagO m o := by
  obtain ⟨d, k, c, e, a, b, b2, c0, c1⟩ := h
  exact ⟨d, k, c, e, a, b, b2, c0, by omega⟩
def spDraw : Sp := fun vs H Q _ => ∃ (b : Addr) (n : Nat) (many : Int) (M : MM) (G : Hp), vs = [.ref b, .int many] ∧ Vw ((b, BagO (n + 1)) :: M) G H ∧ 0 < many ∧ many.natAbs < 2 ^ 100 ∧
  ∀ r H', 0 ≤ r → r < many → Vw ((b, BagO n) :: M) G H' → Q (.int r) H'
def spBagged (K : PySem.W.Frag) : Sp := fun vs H Q _ => ∃ (a : Addr) (at_ : Int) (ns : List Int) (M : MM) (G : Hp), vs = [.ref a, .int at_] ∧ Vw M G H ∧ SqL K G a (ns.map V.int) ∧ 0 ≤ at_ ∧ at_ ≤ 100 ∧
  ∀ b H', G b = none → Vw ((b, BagO 1000000) :: M) G H' → Q (.ref b) H'
def spOf (K : PySem.W.Frag) : Sp := fun vs H Q _ => ∃ (b l : Addr) (n : Nat) (xs : List V) (M : MM) (G : Hp), vs = [.ref b, .ref l] ∧ Vw ((b, BagO (n + 1)) :: M) G H ∧ SqL K G l xs ∧ xs ≠ [] ∧ xs.length ≤ 1000 ∧
  ∀ (i : Nat) v H', xs[i]? = some v → Vw ((b, BagO n) :: M) G H' → Q v H'
/-! ### names -/
def nmS (x : Str) : Bool := decide (1 ≤ x.length) && (decide (x.length ≤ 8) && x.cps.toList.all fun c => decide (97 ≤ c) && decide (c ≤ 122))
def isNm : V → Bool
  | .str x => nmS x
  | _ => false
/-- data: its type is known -/
def DatV (K : PySem.W.Frag) (H : Hp) (v : V) : Prop := v = .non ∨ (∃ b, v = .bl b) ∨ (∃ i, v = .int i) ∨ (∃ x, v = .str x ∧ x.length ≤ 100000) ∨ (∃ a xs, v = .ref a ∧ H a = some (.lst xs)) ∨ ∃ a xs, v = .ref a ∧ H a = some (.tup xs)
/-- names of one length that differ -/
structure WordsOk (n : Nat) (ws : List Str) : Prop where
  len : ws.length = n
  nm : ∀ x ∈ ws, nmS x = true
  up : ∀ x ∈ ws, x ≠ "up"
  nd : ws.Nodup
def spWords : Sp := fun vs H Q _ => ∃ (b : Addr) (n m : Nat) (M : MM) (G : Hp), vs = [.ref b, .int m] ∧ m ≤ 13 ∧ Vw ((b, BagO (n + 12)) :: M) G H ∧
  ∀ p ws G' H', WordsOk m ws → Ex G G' → G p = none → G' p = some (.lst (ws.map V.str)) → Vw ((b, BagO n) :: M) G' H' → Q (.ref p) H'
def spOdd (K : PySem.W.Frag) : Sp := fun vs H Q _ => ∃ (b : Addr) (n : Nat) (k : Int) (M : MM) (G : Hp), vs = [.ref b, .int k] ∧ 0 ≤ k ∧ k ≤ 100 ∧ Vw ((b, BagO (n + 1)) :: M) G H ∧
  ∀ v G' H', Ex G G' → DatV K G' v → isNm v = false → Vw ((b, BagO n) :: M) G' H' → Q v H'
def spTruth : Sp := fun vs H Q _ => ∃ b c : Bool, vs = [.bl b, .bl c] ∧ Q (.bl (decide (b = c))) H
def spIsName (K : PySem.W.Frag) : Sp := fun vs H Q _ => ∃ v, vs = [v] ∧ DatV K H v ∧ Q (.bl (isNm v)) H
def spIsPart (K : PySem.W.Frag) : Sp := fun vs H Q _ => ∃ v, vs = [v] ∧ DatV K H v ∧ Q (.bl (isNm v && !decide (v = .str "up"))) H
def spLookName : Sp := fun vs H Q _ => ∃ x, vs = [.str x] ∧ nmS x = true ∧ Q (.str x) H
def spLookParts (K : PySem.W.Frag) : Sp := fun vs H Q _ => ∃ (a : Addr) (ws : List Str), vs = [.ref a] ∧ SqT K H a (ws.map V.str) ∧ (∀ x ∈ ws, nmS x = true ∧ x ≠ "up") ∧ Q (.ref a) H
def spLookOnce (K : PySem.W.Frag) : Sp := fun vs H Q _ => ∃ (l : Addr) (ws : List Str) (M : MM) (G : Hp), vs = [.ref l] ∧ Vw M G H ∧ Sq K G l (ws.map V.str) ∧ ws.Nodup ∧ ws.length ≤ 100 ∧ ∀ H', Vw M G H' → Q .non H'
end E

namespace E
open PySem L2 Evl SX
/-- over the signs of a text -/
theorem for_str {x : Str} {g : TG} {tb : TS} {D : Ends} {σ : L2.St} {H : Hp} (Pv : Nat → L2.St → Hp → Prop) (h0 : Pv 0 σ H)
    (hs : ∀ (i : Nat) c σ H, x.cps.toList[i]? = some c → Pv i σ H → g (.str ⟨#[c]⟩) σ H fun σ2 H2 => tb { D with nx := Pv (i + 1), ct := Pv (i + 1), bk := D.nx } σ2 H2) (hd : ∀ σ H, Pv x.length σ H → D.nx σ H) :
    ∃ W : Nat → Nat → L2.St → Hp → Prop, (∃ m, W 0 m σ H) ∧ ∀ i m σ H, W i m σ H →
      ((Its x).stop i H ∧ D.nx σ H) ∨ ((Its x).go i H ∧ ∃ N : L2.St → Hp → Prop, (∀ σ' H', N σ' H' → ∃ m', m' < m ∧ W (i + 1) m' σ' H') ∧ ∀ v H', (Its x).yld i H v H' → g v σ H' fun σ2 H2 => tb { D with nx := N, ct := N, bk := D.nx } σ2 H2) := by
  refine ⟨fun i m σ H => m = x.cps.size - i ∧ i ≤ x.cps.size ∧ Pv i σ H, ⟨x.cps.size, by simp, Nat.zero_le _, h0⟩, ?_⟩
  rintro i m σ H ⟨rfl, hi, p⟩
  by_cases hlt : i < x.cps.size
  · refine .inr ⟨hlt, Pv (i + 1), fun σ' H' p' => ⟨x.cps.size - (i + 1), by omega, rfl, hlt, p'⟩, fun v H' y => ?_⟩
    obtain ⟨e, c, hc, ev⟩ := y
    subst e ev
    exact hs i c σ _ (by simpa using hc) p
  · have e : i = x.cps.size := by omega
    subst e
    exact .inl ⟨Nat.le_refl _, hd σ H p⟩
theorem letters_eq : (("abcdefghijklmnopqrstuvwxyz" : Str)).cps.toList = List.range' 97 26 := by decide +kernel
theorem letters_mem {c : Nat} : c ∈ (("abcdefghijklmnopqrstuvwxyz" : Str)).cps.toList ↔ 97 ≤ c ∧ c ≤ 122 := by
  rw [letters_eq, List.mem_range'_1]
  omega
theorem letters_at {i : Nat} (h : i < 26) : (("abcdefghijklmnopqrstuvwxyz" : Str)).cps.toList[i]? = some (97 + i) := by
  rw [letters_eq, List.getElem?_range' h]
  congr 1
  omega
section
variable {K : PySem.W.Frag} {H G : Hp} {Q : VK} {v : V} {x : Str} {b : Bool} {n m : String}
theorem g_isi (ty : TyX K H v (.type n)) (h : kitB n m = some b) (q : Q (.bl b) H) : rIsi K [v, .ty m] H Q := ⟨v, .ty m, _, _, b, rfl, .ty m, ty, kit_ty h, q⟩
/-- the name of a datum's type -/
def tyN (H : Hp) : V → String
  | .non => "NoneType"
  | .bl _ => "bool"
  | .int _ => "int"
  | .str _ => "str"
  | .ref a => match H a with
    | some (.lst _) => "list"
    | _ => "tuple"
  | _ => "int"
theorem DatV.ty (h : DatV K H v) : TyX K H v (.type (tyN H v)) := by
  rcases h with rfl | ⟨b, rfl⟩ | ⟨i, rfl⟩ | ⟨x, rfl, _⟩ | ⟨a, xs, rfl, e⟩ | ⟨a, xs, rfl, e⟩
  · exact .base .non
  · exact .base (.bl b)
  · exact .base (.int i)
  · exact .base (.str x)
  · have q : tyN H (.ref a) = "list" := by
      show (match H a with | some (.lst _) => "list" | _ => "tuple") = "list"
      rw [e]
    rw [q]
    exact .base (.lst e)
  · have q : tyN H (.ref a) = "tuple" := by
      show (match H a with | some (.lst _) => "list" | _ => "tuple") = "tuple"
      rw [e]
    rw [q]
    exact .base (.tup e)
theorem DatV.mono (e : Ex G H) (h : DatV K G v) : DatV K H v := by
  rcases h with rfl | ⟨b, rfl⟩ | ⟨i, rfl⟩ | ⟨x, rfl, l⟩ | ⟨a, xs, rfl, q⟩ | ⟨a, xs, rfl, q⟩
  · exact Or.inl rfl
  · exact Or.inr (Or.inl ⟨b, rfl⟩)
  · exact Or.inr (Or.inr (Or.inl ⟨i, rfl⟩))
  · exact Or.inr (Or.inr (Or.inr (Or.inl ⟨x, rfl, l⟩)))
  · exact Or.inr (Or.inr (Or.inr (Or.inr (Or.inl ⟨a, xs, rfl, e _ _ q⟩))))
  · exact Or.inr (Or.inr (Or.inr (Or.inr (Or.inr ⟨a, xs, rfl, e _ _ q⟩))))
theorem DatV.str (h : x.length ≤ 100000) : DatV K H (.str x) := Or.inr (Or.inr (Or.inr (Or.inl ⟨x, rfl, h⟩)))
def isStrV : V → Bool
  | .str _ => true
  | _ => false
theorem g_isiStr (h : DatV K H v) (q : Q (.bl (isStrV v)) H) : rIsi K [v, .ty "str"] H Q := by
  rcases h with rfl | ⟨b, rfl⟩ | ⟨i, rfl⟩ | ⟨x, rfl, _⟩ | ⟨a, xs, rfl, e⟩ | ⟨a, xs, rfl, e⟩
  · exact g_isi (b := false) (.base .non) (by decide +kernel) q
  · exact g_isi (b := false) (.base (.bl b)) (by decide +kernel) q
  · exact g_isi (b := false) (.base (.int i)) (by decide +kernel) q
  · exact g_isi (b := true) (.base (.str x)) (by decide +kernel) q
  · exact g_isi (b := false) (.base (.lst e)) (by decide +kernel) q
  · exact g_isi (b := false) (.base (.tup e)) (by decide +kernel) q
theorem g_notSign {c : Nat} (q : Q (.bl (!decide (c ∈ x.cps.toList))) H) : rNotSign (.str ⟨#[c]⟩) (.str x) H Q := ⟨c, x, rfl, rfl, q⟩
theorem nmS_len (h : nmS x = true) : 1 ≤ x.length ∧ x.length ≤ 8 := by
  unfold nmS at h
  simp only [Bool.and_eq_true, decide_eq_true_eq] at h
  exact ⟨h.1, h.2.1⟩
theorem nmS_all (h : nmS x = true) : ∀ c ∈ x.cps.toList, 97 ≤ c ∧ c ≤ 122 := by
  unfold nmS at h
  simp only [Bool.and_eq_true, decide_eq_true_eq, List.all_eq_true] at h
  exact h.2.2
theorem nmS_of (h1 : 1 ≤ x.length) (h2 : x.length ≤ 8) (h3 : ∀ c ∈ x.cps.toList, 97 ≤ c ∧ c ≤ 122) : nmS x = true := by
  unfold nmS
  simp only [Bool.and_eq_true, decide_eq_true_eq, List.all_eq_true]
  exact ⟨h1, h2, h3⟩
theorem nmS_not {c : Nat} (hc : c ∈ x.cps.toList) (h : ¬ (97 ≤ c ∧ c ≤ 122)) : nmS x = false := by
  cases e : nmS x with
  | false => rfl
  | true => exact absurd (nmS_all e c hc) h
theorem g_eqD {d e : PyData} {v u : V} (hv : Dp K H v d) (hu : Dp K H u e) (hd : SeqAt.shaped d = true) (he : SeqAt.shaped e = true) (q : Q (.bl (PyData.eqv d e)) H) : rEqU K v u H Q := Or.inr ⟨d, e, hv, hu, hd, he, q⟩
theorem g_neD {d e : PyData} {v u : V} (hv : Dp K H v d) (hu : Dp K H u e) (hd : SeqAt.shaped d = true) (he : SeqAt.shaped e = true) (q : Q (.bl (!PyData.eqv d e)) H) : rNeU K v u H Q := Or.inr ⟨d, e, hv, hu, hd, he, q⟩
theorem g_eqS {v u : V} (h : scal v u = true) (q : Q (.bl (decide (v = u))) H) : rEqU K v u H Q := Or.inl ⟨h, q⟩
theorem g_neS {v u : V} (h : scal v u = true) (q : Q (.bl (!decide (v = u))) H) : rNeU K v u H Q := Or.inl ⟨h, q⟩
end
end E

namespace E
open PySem L2 Evl SX
/-- what a comprehension asks of its walk -/
def lcG (J : It) (g : TG) (tt : TT) (te : TE) (vs : List Nat) (σ : L2.St) (Q : VK) (H1 : Hp) : Prop := ∀ D, H1 D = none → ∃ W : Nat → Nat → Hp → Prop, (∃ m, W 0 m (upd H1 D (.lst []))) ∧ ∀ i m H, W i m H →
  (J.stop i H ∧ Q (.ref D) H) ∨ (J.go i H ∧ ∃ Nx : Hp → Prop, (∀ H', Nx H' → ∃ m', m' < m ∧ W (i + 1) m' H') ∧ ∀ x H', J.yld i H x H' → g x (wipe σ vs) H' fun σ2 H2 => wipe σ2 vs = wipe σ vs ∧ tt σ2 H2 fun b H3 =>
    if b = true then te σ2 H3 fun y H4 => ∃ acc, H4 D = some (.lst acc) ∧ acc.length < sizeLine ∧ Nx (upd H4 D (.lst (acc ++ [y]))) else Nx H3)
section
variable {K : PySem.W.Frag} {M : MM} {G H : Hp} {b : Addr} {σ : L2.St} {te : TE} {x : Nat} {Q : VK}
/-- [te for x in range(lo, lo + n)], each turn with at most k draws of the bag at b -/
theorem lc_bag {lo : Int} {n N k : Nat} (w : Vw ((b, BagO N) :: M) G H) (hk : k * n ≤ N) (hn : n < 100000) (P : Nat → Hp → V → Prop) (mono : ∀ i G1 G2 v, Ex G1 G2 → P i G1 v → P i G2 v)
    (hw : ∀ v, wipe ((wipe σ [x]).set x (some v)) [x] = wipe σ [x])
    (step : ∀ (i : Nat) (G1 H1 : Hp) (D : Addr) (acc : List V) (R : VK), i < n → Ex G G1 → acc.length = i → Vw ((b, BagO (N - k * i)) :: (D, (· = .lst acc)) :: M) G1 H1 →
      (∀ v G2 H2, Ex G1 G2 → P i G2 v → Vw ((b, BagO (N - k * i - k)) :: (D, (· = .lst acc)) :: M) G2 H2 → R v H2) → te ((wipe σ [x]).set x (some (.int (lo + i)))) H1 R)
    (fin : ∀ (D : Addr) (xs : List V) (G1 H1 : Hp), xs.length = n → (∀ (i : Nat) v, xs[i]? = some v → P i G1 v) → Ex G G1 → G D = none → G1 D = some (.lst xs) → Vw ((b, BagO (N - k * n)) :: M) G1 H1 → Q (.ref D) H1) :
    lcG (Itr lo n) (gName x) tYes te [x] σ Q H := by
  intro D hD
  have gD : G D = none := w.free hD
  refine lc_range (lo := lo) (n := n) (fun i H' => ∃ (acc : List V) (G1 : Hp), acc.length = i ∧ Ex G G1 ∧ (∀ (j : Nat) v, acc[j]? = some v → P j G1 v) ∧ Vw ((b, BagO (N - k * i)) :: (D, (· = .lst acc)) :: M) G1 H')
    ⟨[], G, rfl, Ex.refl G, fun j v h => by simp at h, by simpa using (w.newM hD (φ := (· = .lst [])) rfl).swap⟩ ?_ ?_
  · rintro i H1 hi ⟨acc, G1, el, e1, hp, w1⟩
    refine ⟨hw _, g_yes (iteT ?_)⟩
    refine step i G1 H1 D acc _ hi e1 el w1 fun v G2 H2 e2 pv w2 => ?_
    have w3 := w2.swap
    obtain ⟨o, ho, eo⟩ := w3.get
    have eo' : o = .lst acc := eo
    subst eo'
    refine ⟨acc, ho, sz_lt (by omega), acc ++ [v], G2, by rw [List.length_append, el]; rfl, e1.trans e2, fun j u h => ?_, ?_⟩
    · by_cases hj : j < acc.length
      · rw [List.getElem?_append_left hj] at h
        exact mono _ _ _ _ e2 (hp j u h)
      · have ej : j = acc.length := by
          have := (List.getElem?_eq_some_iff.mp h).1
          rw [List.length_append] at this
          simp at this
          omega
        subst ej
        rw [List.getElem?_append_right (Nat.le_refl _)] at h
        simp at h
        subst h
        rw [el]
        exact pv
    · have w4 := (w3.put (ψ := (· = .lst (acc ++ [v]))) (o := .lst (acc ++ [v])) rfl).swap
      have e : N - k * (i + 1) = N - k * i - k := by rw [Nat.mul_succ]; omega
      rw [e]
      exact w4
  · rintro H1 ⟨acc, G1, el, e1, hp, w1⟩
    have w2 := w1.swap
    refine fin D acc (upd G1 D (.lst acc)) H1 el (fun i v h => mono _ _ _ _ w2.frz_ex (hp i v h)) (e1.trans w2.frz_ex) gD upd_same w2.frz
/-- the same without draws -/
theorem lc_rng {lo : Int} {n : Nat} (w : Vw M G H) (hn : n < 100000) (P : Nat → Hp → V → Prop) (mono : ∀ i G1 G2 v, Ex G1 G2 → P i G1 v → P i G2 v)
    (hw : ∀ v, wipe ((wipe σ [x]).set x (some v)) [x] = wipe σ [x])
    (step : ∀ (i : Nat) (G1 H1 : Hp) (D : Addr) (acc : List V) (R : VK), i < n → Ex G G1 → acc.length = i → Vw ((D, (· = .lst acc)) :: M) G1 H1 →
      (∀ v G2 H2, Ex G1 G2 → P i G2 v → Vw ((D, (· = .lst acc)) :: M) G2 H2 → R v H2) → te ((wipe σ [x]).set x (some (.int (lo + i)))) H1 R)
    (fin : ∀ (D : Addr) (xs : List V) (G1 H1 : Hp), xs.length = n → (∀ (i : Nat) v, xs[i]? = some v → P i G1 v) → Ex G G1 → G D = none → G1 D = some (.lst xs) → Vw M G1 H1 → Q (.ref D) H1) :
    lcG (Itr lo n) (gName x) tYes te [x] σ Q H := by
  intro D hD
  have gD : G D = none := w.free hD
  refine lc_range (lo := lo) (n := n) (fun i H' => ∃ (acc : List V) (G1 : Hp), acc.length = i ∧ Ex G G1 ∧ (∀ (j : Nat) v, acc[j]? = some v → P j G1 v) ∧ Vw ((D, (· = .lst acc)) :: M) G1 H')
    ⟨[], G, rfl, Ex.refl G, fun j v h => by simp at h, w.newM hD (φ := (· = .lst [])) rfl⟩ ?_ ?_
  · rintro i H1 hi ⟨acc, G1, el, e1, hp, w1⟩
    refine ⟨hw _, g_yes (iteT ?_)⟩
    refine step i G1 H1 D acc _ hi e1 el w1 fun v G2 H2 e2 pv w3 => ?_
    obtain ⟨o, ho, eo⟩ := w3.get
    have eo' : o = .lst acc := eo
    subst eo'
    refine ⟨acc, ho, sz_lt (by omega), acc ++ [v], G2, by rw [List.length_append, el]; rfl, e1.trans e2, fun j u h => ?_, w3.put (ψ := (· = .lst (acc ++ [v]))) (o := .lst (acc ++ [v])) rfl⟩
    by_cases hj : j < acc.length
    · rw [List.getElem?_append_left hj] at h
      exact mono _ _ _ _ e2 (hp j u h)
    · have ej : j = acc.length := by
        have := (List.getElem?_eq_some_iff.mp h).1
        rw [List.length_append] at this
        simp at this
        omega
      subst ej
      rw [List.getElem?_append_right (Nat.le_refl _)] at h
      simp at h
      subst h
      rw [el]
      exact pv
  · rintro H1 ⟨acc, G1, el, e1, hp, w2⟩
    exact fin D acc (upd G1 D (.lst acc)) H1 el (fun i v h => mono _ _ _ _ w2.frz_ex (hp i v h)) (e1.trans w2.frz_ex) gD upd_same w2.frz
/-- [te for x in a list that stands] -/
theorem lc_lst {a : Addr} {xs : List V} (w : Vw M G H) (hs : SqL K G a xs) (hn : xs.length < 100000) (P : Nat → Hp → V → Prop) (mono : ∀ i G1 G2 v, Ex G1 G2 → P i G1 v → P i G2 v)
    (hw : ∀ v, wipe ((wipe σ [x]).set x (some v)) [x] = wipe σ [x])
    (step : ∀ (i : Nat) (y : V) (G1 H1 : Hp) (D : Addr) (acc : List V) (R : VK), xs[i]? = some y → Ex G G1 → acc.length = i → Vw ((D, (· = .lst acc)) :: M) G1 H1 →
      (∀ v G2 H2, Ex G1 G2 → P i G2 v → Vw ((D, (· = .lst acc)) :: M) G2 H2 → R v H2) → te ((wipe σ [x]).set x (some y)) H1 R)
    (fin : ∀ (D : Addr) (ys : List V) (G1 H1 : Hp), ys.length = xs.length → (∀ (i : Nat) v, ys[i]? = some v → P i G1 v) → Ex G G1 → G D = none → G1 D = some (.lst ys) → Vw M G1 H1 → Q (.ref D) H1) :
    lcG (Itl K a) (gName x) tYes te [x] σ Q H := by
  intro D hD
  have gD : G D = none := w.free hD
  refine lc_list (K := K) (a := a) (xs := xs) (fun i H' => ∃ (acc : List V) (G1 : Hp), acc.length = i ∧ Ex G G1 ∧ (∀ (j : Nat) v, acc[j]? = some v → P j G1 v) ∧ Vw ((D, (· = .lst acc)) :: M) G1 H')
    ⟨[], G, rfl, Ex.refl G, fun j v h => by simp at h, w.newM hD (φ := (· = .lst [])) rfl⟩ (fun i H' _ ⟨acc, G1, _, e1, _, w1⟩ => ex_l (e1.trans w1.ex) hs) ?_ ?_
  · rintro i y H1 hi ⟨acc, G1, el, e1, hp, w1⟩
    have hlt := (List.getElem?_eq_some_iff.mp hi).1
    refine ⟨hw _, g_yes (iteT ?_)⟩
    refine step i y G1 H1 D acc _ hi e1 el w1 fun v G2 H2 e2 pv w3 => ?_
    obtain ⟨o, ho, eo⟩ := w3.get
    have eo' : o = .lst acc := eo
    subst eo'
    refine ⟨acc, ho, sz_lt (by omega), acc ++ [v], G2, by rw [List.length_append, el]; rfl, e1.trans e2, fun j u h => ?_, w3.put (ψ := (· = .lst (acc ++ [v]))) (o := .lst (acc ++ [v])) rfl⟩
    by_cases hj : j < acc.length
    · rw [List.getElem?_append_left hj] at h
      exact mono _ _ _ _ e2 (hp j u h)
    · have ej : j = acc.length := by
        have := (List.getElem?_eq_some_iff.mp h).1
        rw [List.length_append] at this
        simp at this
        omega
      subst ej
      rw [List.getElem?_append_right (Nat.le_refl _)] at h
      simp at h
      subst h
      rw [el]
      exact pv
  · rintro H1 ⟨acc, G1, el, e1, hp, w2⟩
    exact fin D acc (upd G1 D (.lst acc)) H1 el (fun i v h => mono _ _ _ _ w2.frz_ex (hp i v h)) (e1.trans w2.frz_ex) gD upd_same w2.frz
theorem g_lc {wi : TI} {g : TG} {tt : TT} {vs : List Nat} (h : wi σ H fun J H1 => lcG J g tt te vs σ Q H1) : tLc wi g tt te vs σ H Q := h
theorem g_iRng1 {ta : TA} {R : It → Hp → Prop} (h : ta σ H fun vs H1 => ∃ j : Int, vs = [.int j] ∧ -(2 ^ 62) ≤ j ∧ j < 2 ^ 62 ∧ R (Itr 0 j.toNat) H1) : iRng1 ta σ H R := h
theorem g_iList {tl : TE} {R : It → Hp → Prop} (h : tl σ H fun x H1 => ∃ a, x = .ref a ∧ (∃ xs, SqL K H1 a xs) ∧ R (Itl K a) H1) : iList K tl σ H R := h
theorem g_iTup {tl : TE} {R : It → Hp → Prop} (h : tl σ H fun x H1 => ∃ a, x = .ref a ∧ (∃ xs, SqT K H1 a xs) ∧ R (Itt K a) H1) : iTup K tl σ H R := h
theorem g_iStr {R : It → Hp → Prop} (h : te σ H fun v H1 => ∃ x, v = .str x ∧ R (Its x) H1) : iStr te σ H R := h
theorem g_part {S : Option Int → Hp → Prop} (h : te σ H fun x H1 => ∃ i, x = .int i ∧ S (some i) H1) : tPart te σ H S := h
theorem g_gTup {n : Nat} {t : TGs} {v : V} {S : L2.St → Hp → Prop} (h : ∃ a xs, v = .ref a ∧ SqT K H a xs ∧ xs.length = n ∧ t xs σ H S) : gTup K n t v σ H S := h
theorem g_gCons {t : TG} {u : TGs} {v : V} {vs : List V} {S : L2.St → Hp → Prop} (h : t v σ H fun σ' H' => u vs σ' H' S) : gCons t u (v :: vs) σ H S := ⟨v, vs, rfl, h⟩
theorem g_gNil {S : L2.St → Hp → Prop} (h : S σ H) : gNil [] σ H S := ⟨rfl, h⟩
theorem g_rng {n : Nat} {R : It → Hp → Prop} (hn : n < 1000000) (h : R (Itr 0 n) H) : (∃ j, [V.int (n : Int)] = [V.int j] ∧ -(2 ^ 62) ≤ j ∧ j < 2 ^ 62 ∧ R (Itr 0 j.toNat) H) := ⟨n, rfl, by omega, by omega, h⟩
end
end E

namespace E
open PySem L2 Evl SX StX
abbrev s_law_draw : Stmt := top 23
abbrev N_law_draw : List Str := ["_law_bag", "_law_many", "_law_digit", "_law_mixed"]
abbrev p_law_draw : List Str := ["_law_bag", "_law_many"]
theorem sc_law_draw : FnScope N_law_draw p_law_draw (defScope s_law_draw) := ⟨rfl, rfl, rfl, by decide +kernel, rfl, by decide +kernel, by decide +kernel⟩
def t_law_draw_4 (P : Program) (w : World) (K : PySem.W.Frag) : TS :=
 (tRet (tOp rModI (tCB rInt (tCons (tOp rDivI (tVar 3) (tC (V.int 1024))) tNil)) (tVar 1)))
def t_law_draw_3 (P : Program) (w : World) (K : PySem.W.Frag) : TS :=
 (tSeq (tAsg (tOp rModI (tCB rInt (tCons (tOp rPowI (tOp (rAddU K) (tVar 3) (tOp rMulI (tC (V.int 32452867)) (tOp (rIx K) (tVar 0) (tC (V.int 2))))) (tC (V.int 2))) tNil)) (tC (V.int 2305843009213693951))) (gName 3))
 (t_law_draw_4 P w K))
def t_law_draw_2 (P : Program) (w : World) (K : PySem.W.Frag) : TS :=
 (tSeq (tAsg (tOp rModI (tCB rInt (tCons (tOp rPowI (tOp (rAddU K) (tOp (rIx K) (tVar 0) (tC (V.int 1))) (tOp rMulI (tC (V.int 1000003)) (tOp (rIx K) (tVar 0) (tC (V.int 2))))) (tC (V.int 3))) tNil)) (tC (V.int 2305843009213693921))) (gName 3))
 (t_law_draw_3 P w K))
def t_law_draw_1 (P : Program) (w : World) (K : PySem.W.Frag) : TS :=
 (tSeq (tAsg (tOp (rAddU K) (tOp (rIx K) (tVar 0) (tC (V.int 2))) (tC (V.int 1))) (gSub (tVar 0) (tC (V.int 2)) rSetL))
 (t_law_draw_2 P w K))
def t_law_draw (P : Program) (w : World) (K : PySem.W.Frag) : TS :=
 (tSeq (tIfS (tTest (tOp rGtI (tOp (rIx K) (tVar 0) (tC (V.int 0))) (tC (V.int 0)))) (tSeq (tAsg (tOp rModI (tCB rInt (tCons (tOp (rIx K) (tVar 0) (tC (V.int 0))) tNil)) (tVar 1)) (gName 2))
 (tSeq (tAsg (tOp rDivI (tOp (rIx K) (tVar 0) (tC (V.int 0))) (tVar 1)) (gSub (tVar 0) (tC (V.int 0)) rSetL))
 (tRet (tVar 2)))) tNext)
 (t_law_draw_1 P w K))

section
variable {P : Program} {w : World} {K : PySem.W.Frag} {mg : Str → Option Value} {base : Heap}
theorem o_law_draw (T : Txt K mg) {f : Addr} {fd : FuncData} (F : Fd K "_law_draw" s_law_draw f fd)
    (pure : ∀ vs H Q (E : XK), spDraw vs H Q E → t_law_draw P w K { nx := fun _ H' => Q .non H', rt := Q } (L2.start N_law_draw vs) H) (len : ∀ vs H Q E, spDraw vs H Q E → vs.length = 2) : FnOk P w K mg base CX0 1 f fd p_law_draw spDraw :=
  F.ok sc_law_draw len fun cdv A outer s H vs Q E hr h => ⟨t_law_draw P w K, PSs.nox (by
    unfold t_law_draw t_law_draw_1 t_law_draw_2 t_law_draw_3 t_law_draw_4
    exact (pss_cons (ps_if (pt_cmpR op_gt (pe_ix ix_seq (pv 0) pe_int (fun _ _ => rfl)) pe_int (nomark _)) (pss_cons (ps_set (i := 2) sc_law_draw.nd rfl (Or.inl rfl) (pe_op op_mod (pe_callTy call_int rfl (T.fr 0 rfl) (by decide +kernel) (pa_cons (pe_ix ix_seq (pv 0) pe_int (fun _ _ => rfl)) pa_nil)) (pv 1)))
 (pss_cons (ps_asg (pe_op op_fdivW (pe_ix ix_seq (pv 0) pe_int (fun _ _ => rfl)) (pv 1)) (pg_sub (pv 0) pe_int set_list))
 (pss_one (ps_ret (pv 2))))) pss_nil)
 (pss_cons (ps_asg (pe_op op_addU (pe_ix ix_seq (pv 0) pe_int (fun _ _ => rfl)) pe_int) (pg_sub (pv 0) pe_int set_list))
 (pss_cons (ps_set (i := 3) sc_law_draw.nd rfl (Or.inl rfl) (pe_op op_mod (pe_callTy call_int rfl (T.fr 0 rfl) (by decide +kernel) (pa_cons (pe_op op_pow (pe_op op_addU (pe_ix ix_seq (pv 0) pe_int (fun _ _ => rfl)) (pe_op op_mul pe_int (pe_ix ix_seq (pv 0) pe_int (fun _ _ => rfl)))) pe_int) pa_nil)) pe_int))
 (pss_cons (ps_set (i := 3) sc_law_draw.nd rfl (Or.inl rfl) (pe_op op_mod (pe_callTy call_int rfl (T.fr 0 rfl) (by decide +kernel) (pa_cons (pe_op op_pow (pe_op op_addU (pv 3) (pe_op op_mul pe_int (pe_ix ix_seq (pv 0) pe_int (fun _ _ => rfl)))) pe_int) pa_nil)) pe_int))
 (pss_one (ps_ret (pe_op op_mod (pe_callTy call_int rfl (T.fr 0 rfl) (by decide +kernel) (pa_cons (pe_op op_fdivW (pv 3) pe_int) pa_nil)) (pv 1))))))))), pure vs H Q E h⟩
end

abbrev s_law_bagged : Stmt := top 22
abbrev N_law_bagged : List Str := ["_law_script", "_law_at", "_law_cell", "_law_digits"]
abbrev p_law_bagged : List Str := ["_law_script", "_law_at"]
theorem sc_law_bagged : FnScope N_law_bagged p_law_bagged (defScope s_law_bagged) := ⟨rfl, rfl, rfl, by decide +kernel, rfl, by decide +kernel, by decide +kernel⟩
def t_law_bagged_2 (P : Program) (w : World) (K : PySem.W.Frag) : TS :=
 (tRet (tLst (tCons (tVar 3) (tCons (tOp (rAddU K) (tOp (rAddU K) (tOp rMulI (tOp rModI (tCB rInt (tCons (tVar 2) tNil)) (tC (V.int 2305843009213693951))) (tC (V.int 5))) (tOp rMulI (tC (V.int 15787)) (tVar 1))) (tC (V.int 3301))) (tCons (tC (V.int 0)) tNil)))))
def t_law_bagged_1 (P : Program) (w : World) (K : PySem.W.Frag) : TS :=
 (tSeq (tAsg (tIf (tTest (tOp rGeI (tCB rAbs (tCons (tVar 2) tNil)) (tOp rPowI (tC (V.int 10)) (tC (V.int 18))))) (tCB rAbs (tCons (tVar 2) tNil)) (tC (V.int 0))) (gName 3))
 (t_law_bagged_2 P w K))
def t_law_bagged (P : Program) (w : World) (K : PySem.W.Frag) : TS :=
 (tSeq (tAsg (tIf (tTest (tOp rLtI (tVar 1) (tCB (rLen K) (tCons (tVar 0) tNil)))) (tOp (rIx K) (tVar 0) (tVar 1)) (tC (V.int 0))) (gName 2))
 (t_law_bagged_1 P w K))

section
variable {P : Program} {w : World} {K : PySem.W.Frag} {mg : Str → Option Value} {base : Heap}
theorem o_law_bagged (T : Txt K mg) {f : Addr} {fd : FuncData} (F : Fd K "_law_bagged" s_law_bagged f fd)
    (pure : ∀ vs H Q (E : XK), (spBagged K) vs H Q E → t_law_bagged P w K { nx := fun _ H' => Q .non H', rt := Q } (L2.start N_law_bagged vs) H) (len : ∀ vs H Q E, (spBagged K) vs H Q E → vs.length = 2) : FnOk P w K mg base CX0 1 f fd p_law_bagged (spBagged K) :=
  F.ok sc_law_bagged len fun cdv A outer s H vs Q E hr h => ⟨t_law_bagged P w K, PSs.nox (by
    unfold t_law_bagged t_law_bagged_1 t_law_bagged_2
    exact (pss_cons (ps_set (i := 2) sc_law_bagged.nd rfl (Or.inl rfl) (pe_ifExp (pt_cmpR op_lt (pv 1) (pe_callB call_lenR rfl (T.fr 1 rfl) (by decide +kernel) (pa_cons (pv 0) pa_nil)) (nomark _)) (pe_ix ix_seq (pv 0) (pv 1) (fun _ _ => rfl)) pe_int))
 (pss_cons (ps_set (i := 3) sc_law_bagged.nd rfl (Or.inl rfl) (pe_ifExp (pt_cmpR op_ge (pe_callB call_absR rfl (T.fr 2 rfl) (by decide +kernel) (pa_cons (pv 2) pa_nil)) (pe_op op_pow pe_int pe_int) (nomark _)) (pe_callB call_absR rfl (T.fr 2 rfl) (by decide +kernel) (pa_cons (pv 2) pa_nil)) pe_int))
 (pss_one (ps_ret (pe_lst (pa_cons (pv 3) (pa_cons (pe_op op_addU (pe_op op_addU (pe_op op_mul (pe_op op_mod (pe_callTy call_int rfl (T.fr 0 rfl) (by decide +kernel) (pa_cons (pv 2) pa_nil)) pe_int) pe_int) (pe_op op_mul pe_int (pv 1))) pe_int) (pa_cons pe_int pa_nil))))))))), pure vs H Q E h⟩
end

abbrev s_law_of : Stmt := top 24
abbrev N_law_of : List Str := ["_law_bag", "_law_some"]
abbrev p_law_of : List Str := ["_law_bag", "_law_some"]
theorem sc_law_of : FnScope N_law_of p_law_of (defScope s_law_of) := ⟨rfl, rfl, rfl, by decide +kernel, rfl, by decide +kernel, by decide +kernel⟩
def t_law_of (P : Program) (w : World) (K : PySem.W.Frag) : TS :=
 (tRet (tOp (rIx K) (tVar 1) (tCall spDraw [] E0 (tCons (tVar 0) (tCons (tCB (rLen K) (tCons (tVar 1) tNil)) tNil)))))

section
variable {P : Program} {w : World} {K : PySem.W.Frag} {mg : Str → Option Value} {base : Heap}
theorem o_law_of (T : Txt K mg) (c_law_draw : Cal P w K mg base 1 "_law_draw" spDraw []) {f : Addr} {fd : FuncData} (F : Fd K "_law_of" s_law_of f fd)
    (pure : ∀ vs H Q (E : XK), (spOf K) vs H Q E → t_law_of P w K { nx := fun _ H' => Q .non H', rt := Q } (L2.start N_law_of vs) H) (len : ∀ vs H Q E, (spOf K) vs H Q E → vs.length = 2) : FnOk P w K mg base CX0 2 f fd p_law_of (spOf K) :=
  F.ok sc_law_of len fun cdv A outer s H vs Q E hr h => ⟨t_law_of P w K, PSs.nox (by
    unfold t_law_of
    exact (pss_one (ps_ret (pe_ix ix_seq (pv 1) (pe_c c_law_draw hr (by decide) rfl (pa_cons (pv 0) (pa_cons (pe_callB call_lenR rfl (T.fr 1 rfl) (by decide +kernel) (pa_cons (pv 1) pa_nil)) pa_nil))) (fun _ _ => rfl))))), pure vs H Q E h⟩
end

abbrev s_law_some_words : Stmt := top 25
abbrev N_law_some_words : List Str := ["_law_bag", "_law_many", "_law_letters", "_law_left", "_law_right_here", "_law_first", "_law_step", "_law_found", "_law_k", "_law_word", "_law_turn"]
abbrev p_law_some_words : List Str := ["_law_bag", "_law_many"]
theorem sc_law_some_words : FnScope N_law_some_words p_law_some_words (defScope s_law_some_words) := ⟨rfl, rfl, rfl, by decide +kernel, rfl, by decide +kernel, by decide +kernel⟩
def t_law_some_words_5 (P : Program) (w : World) (K : PySem.W.Frag) : TS :=
 (tRet (tLc (iList K (tVar 7)) (gName 9) tYes (tIf (tTest (tOp (rNeU K) (tVar 9) (tC (V.str "up")))) (tVar 9) (tC (V.str "upp"))) [9]))
def t_law_some_words_4 (P : Program) (w : World) (K : PySem.W.Frag) : TS :=
 (tSeq (tAsg (tLc (iRng1 (tCons (tVar 1) tNil)) (gName 8) tYes (tOp (rAddU K) (tOp (rAddU K) (tVar 3) (tOp (rIx K) (tVar 2) (tOp rModI (tCB rInt (tCons (tOp (rAddU K) (tVar 5) (tOp rMulI (tVar 8) (tVar 6))) tNil)) (tC (V.int 26))))) (tVar 4)) [8]) (gName 7))
 (t_law_some_words_5 P w K))
def t_law_some_words_3 (P : Program) (w : World) (K : PySem.W.Frag) : TS :=
 (tSeq (tAsg (tTup (tCons (tCall spDraw [] E0 (tCons (tVar 0) (tCons (tC (V.int 26)) tNil))) (tCons (tOp (rAddU K) (tC (V.int 1)) (tOp rMulI (tC (V.int 2)) (tCall spDraw [] E0 (tCons (tVar 0) (tCons (tC (V.int 6)) tNil))))) tNil))) (gTup K 2 (gCons (gName 5) (gCons (gName 6) gNil))))
 (t_law_some_words_4 P w K))
def t_law_some_words_2 (P : Program) (w : World) (K : PySem.W.Frag) : TS :=
 (tSeq (tAsg (tM1 (rJoin K) (tC (V.str "")) (tLc (iRng1 (tCons (tCall spDraw [] E0 (tCons (tVar 0) (tCons (tC (V.int 4)) tNil))) tNil)) (gName 10) tYes (tOp (rIx K) (tVar 2) (tCall spDraw [] E0 (tCons (tVar 0) (tCons (tC (V.int 26)) tNil)))) [10])) (gName 4))
 (t_law_some_words_3 P w K))
def t_law_some_words_1 (P : Program) (w : World) (K : PySem.W.Frag) : TS :=
 (tSeq (tAsg (tM1 (rJoin K) (tC (V.str "")) (tLc (iRng1 (tCons (tCall spDraw [] E0 (tCons (tVar 0) (tCons (tC (V.int 4)) tNil))) tNil)) (gName 10) tYes (tOp (rIx K) (tVar 2) (tCall spDraw [] E0 (tCons (tVar 0) (tCons (tC (V.int 26)) tNil)))) [10])) (gName 3))
 (t_law_some_words_2 P w K))
def t_law_some_words (P : Program) (w : World) (K : PySem.W.Frag) : TS :=
 (tSeq (tAsg (tC (V.str "abcdefghijklmnopqrstuvwxyz")) (gName 2))
 (t_law_some_words_1 P w K))

section
variable {P : Program} {w : World} {K : PySem.W.Frag} {mg : Str → Option Value} {base : Heap}
theorem o_law_some_words (T : Txt K mg) (c_law_draw : Cal P w K mg base 1 "_law_draw" spDraw []) {f : Addr} {fd : FuncData} (F : Fd K "_law_some_words" s_law_some_words f fd)
    (pure : ∀ vs H Q (E : XK), spWords vs H Q E → t_law_some_words P w K { nx := fun _ H' => Q .non H', rt := Q } (L2.start N_law_some_words vs) H) (len : ∀ vs H Q E, spWords vs H Q E → vs.length = 2) : FnOk P w K mg base CX0 2 f fd p_law_some_words spWords :=
  F.ok sc_law_some_words len fun cdv A outer s H vs Q E hr h => ⟨t_law_some_words P w K, PSs.nox (by
    unfold t_law_some_words t_law_some_words_1 t_law_some_words_2 t_law_some_words_3 t_law_some_words_4 t_law_some_words_5
    exact (pss_cons (ps_set (i := 2) sc_law_some_words.nd rfl (Or.inr rfl) pe_str)
 (pss_cons (ps_set (i := 3) sc_law_some_words.nd rfl (Or.inr rfl) (pe_joinR pe_str (pe_lc (own := [("_law_turn", 10)]) (g := (gName 10)) (tt := tYes) rfl sc_law_some_words.nd (pi_range1 rfl (T.fr 5 rfl) (pa_cons (pe_c c_law_draw hr (by decide) rfl (pa_cons (pv 0) (pa_cons pe_int pa_nil))) pa_nil)) (blkOk_by (own := [("_law_turn", 10)]) (N := N_law_some_words) (sc := defScope s_law_some_words) (by decide +kernel)) (fun _ _ _ _ _ => (pg_name (i := 10) sc_law_some_words.nd rfl (Or.inl rfl))) (fun _ _ _ _ _ => pts_nil) (fun _ _ _ _ _ => (pe_ix ix_seq (pv 2) (pe_c c_law_draw hr (by decide) rfl (pa_cons (pv 0) (pa_cons pe_int pa_nil))) (fun _ _ => rfl))))))
 (pss_cons (ps_set (i := 4) sc_law_some_words.nd rfl (Or.inr rfl) (pe_joinR pe_str (pe_lc (own := [("_law_turn", 10)]) (g := (gName 10)) (tt := tYes) rfl sc_law_some_words.nd (pi_range1 rfl (T.fr 5 rfl) (pa_cons (pe_c c_law_draw hr (by decide) rfl (pa_cons (pv 0) (pa_cons pe_int pa_nil))) pa_nil)) (blkOk_by (own := [("_law_turn", 10)]) (N := N_law_some_words) (sc := defScope s_law_some_words) (by decide +kernel)) (fun _ _ _ _ _ => (pg_name (i := 10) sc_law_some_words.nd rfl (Or.inl rfl))) (fun _ _ _ _ _ => pts_nil) (fun _ _ _ _ _ => (pe_ix ix_seq (pv 2) (pe_c c_law_draw hr (by decide) rfl (pa_cons (pv 0) (pa_cons pe_int pa_nil))) (fun _ _ => rfl))))))
 (pss_cons (ps_asg (pe_tup (pa_cons (pe_c c_law_draw hr (by decide) rfl (pa_cons (pv 0) (pa_cons pe_int pa_nil))) (pa_cons (pe_op op_addU pe_int (pe_op op_mul pe_int (pe_c c_law_draw hr (by decide) rfl (pa_cons (pv 0) (pa_cons pe_int pa_nil))))) pa_nil))) (pg_tup rfl (pgs_cons (pg_name (i := 5) sc_law_some_words.nd rfl (Or.inr rfl)) (pgs_cons (pg_name (i := 6) sc_law_some_words.nd rfl (Or.inr rfl)) pgs_nil))))
 (pss_cons (ps_setLc (i := 7) (own := [("_law_k", 8)]) (g := (gName 8)) (tt := tYes) rfl sc_law_some_words.nd rfl rfl (sw_true rfl rfl rfl (by decide +kernel)) (pi_range1 rfl (T.fr 5 rfl) (pa_cons (pv 1) pa_nil)) (blkOk_by (own := [("_law_k", 8)]) (N := N_law_some_words) (sc := defScope s_law_some_words) (by decide +kernel)) (fun _ _ _ _ _ => (pg_name (i := 8) sc_law_some_words.nd rfl (Or.inl rfl))) (fun _ _ _ _ _ => pts_nil) (fun _ _ _ _ _ => (pe_op op_addU (pe_op op_addU (pv 3) (pe_ix ix_seq (pv 2) (pe_op op_mod (pe_callTy call_int rfl (T.fr 0 rfl) (by decide +kernel) (pa_cons (pe_op op_addU (pv 5) (pe_op op_mul (pv 8) (pv 6))) pa_nil)) pe_int) (fun _ _ => rfl))) (pv 4))))
 (pss_one (ps_ret (pe_lc (own := [("_law_word", 9)]) (g := (gName 9)) (tt := tYes) rfl sc_law_some_words.nd (pi_list (pv 7)) (blkOk_by (own := [("_law_word", 9)]) (N := N_law_some_words) (sc := defScope s_law_some_words) (by decide +kernel)) (fun _ _ _ _ _ => (pg_name (i := 9) sc_law_some_words.nd rfl (Or.inl rfl))) (fun _ _ _ _ _ => pts_nil) (fun _ _ _ _ _ => (pe_ifExp (pt_cmpR (op_neU hr.units) (pv 9) pe_str (nomark _)) (pv 9) pe_str))))))))))), pure vs H Q E h⟩
end

abbrev s_law_odd_one : Stmt := top 26
abbrev N_law_odd_one : List Str := ["_law_bag", "_law_at", "_law_some"]
abbrev p_law_odd_one : List Str := ["_law_bag", "_law_at"]
theorem sc_law_odd_one : FnScope N_law_odd_one p_law_odd_one (defScope s_law_odd_one) := ⟨rfl, rfl, rfl, by decide +kernel, rfl, by decide +kernel, by decide +kernel⟩
def t_law_odd_one_2 (P : Program) (w : World) (K : PySem.W.Frag) : TS :=
 (tRet (tOp (rIx K) (tVar 2) (tOp rModI (tCB rInt (tCons (tOp (rAddU K) (tCall spDraw [] E0 (tCons (tVar 0) (tCons (tCB (rLen K) (tCons (tVar 2) tNil)) tNil))) (tVar 1)) tNil)) (tCB (rLen K) (tCons (tVar 2) tNil)))))
def t_law_odd_one_1 (P : Program) (w : World) (K : PySem.W.Frag) : TS :=
 (tSeq (tAsg (tOp (rAddU K) (tVar 2) (tLst (tCons (tTup (tCons (tC (V.str "a")) tNil)) (tCons (tLst (tCons (tC (V.str "a")) tNil)) (tCons (tLst tNil) (tCons (tTup tNil) (tCons (tLst (tCons (tLst (tCons (tC (V.str "a")) tNil)) (tCons (tC V.non) tNil))) (tCons (tC (V.str "Ab")) (tCons (tC (V.str "_")) (tCons (tC (V.str "a.b")) (tCons (tOp rPowI (tC (V.int 10)) (tC (V.int 19))) tNil))))))))))) (gName 2))
 (t_law_odd_one_2 P w K))
def t_law_odd_one (P : Program) (w : World) (K : PySem.W.Frag) : TS :=
 (tSeq (tAsg (tLst (tCons (tC V.non) (tCons (tC (V.bl true)) (tCons (tC (V.bl false)) (tCons (tC (V.int 0)) (tCons (tC (V.int 1)) (tCons (tUn rNegI (tC (V.int 7))) (tCons (tC (V.str "")) (tCons (tC (V.str "A")) (tCons (tC (V.str "a b")) (tCons (tC (V.str "a1")) (tCons (tC (V.str "abcdefghi")) (tCons (tC (V.str " a")) (tCons (tC (V.str "a\n")) (tCons (tC (V.str "(a)")) (tCons (tC (V.str "aa-b")) tNil)))))))))))))))) (gName 2))
 (t_law_odd_one_1 P w K))

section
variable {P : Program} {w : World} {K : PySem.W.Frag} {mg : Str → Option Value} {base : Heap}
theorem o_law_odd_one (T : Txt K mg) (c_law_draw : Cal P w K mg base 1 "_law_draw" spDraw []) {f : Addr} {fd : FuncData} (F : Fd K "_law_odd_one" s_law_odd_one f fd)
    (pure : ∀ vs H Q (E : XK), (spOdd K) vs H Q E → t_law_odd_one P w K { nx := fun _ H' => Q .non H', rt := Q } (L2.start N_law_odd_one vs) H) (len : ∀ vs H Q E, (spOdd K) vs H Q E → vs.length = 2) : FnOk P w K mg base CX0 2 f fd p_law_odd_one (spOdd K) :=
  F.ok sc_law_odd_one len fun cdv A outer s H vs Q E hr h => ⟨t_law_odd_one P w K, PSs.nox (by
    unfold t_law_odd_one t_law_odd_one_1 t_law_odd_one_2
    exact (pss_cons (ps_set (i := 2) sc_law_odd_one.nd rfl (Or.inl rfl) (pe_lst (pa_cons pe_non (pa_cons pe_bl (pa_cons pe_bl (pa_cons pe_int (pa_cons pe_int (pa_cons (pe_un un_neg pe_int) (pa_cons pe_str (pa_cons pe_str (pa_cons pe_str (pa_cons pe_str (pa_cons pe_str (pa_cons pe_str (pa_cons pe_str (pa_cons pe_str (pa_cons pe_str pa_nil)))))))))))))))))
 (pss_cons (ps_set (i := 2) sc_law_odd_one.nd rfl (Or.inl rfl) (pe_op op_addU (pv 2) (pe_lst (pa_cons (pe_tup (pa_cons pe_str pa_nil)) (pa_cons (pe_lst (pa_cons pe_str pa_nil)) (pa_cons (pe_lst pa_nil) (pa_cons (pe_tup pa_nil) (pa_cons (pe_lst (pa_cons (pe_lst (pa_cons pe_str pa_nil)) (pa_cons pe_non pa_nil))) (pa_cons pe_str (pa_cons pe_str (pa_cons pe_str (pa_cons (pe_op op_pow pe_int pe_int) pa_nil))))))))))))
 (pss_one (ps_ret (pe_ix ix_seq (pv 2) (pe_op op_mod (pe_callTy call_int rfl (T.fr 0 rfl) (by decide +kernel) (pa_cons (pe_op op_addU (pe_c c_law_draw hr (by decide) rfl (pa_cons (pv 0) (pa_cons (pe_callB call_lenR rfl (T.fr 1 rfl) (by decide +kernel) (pa_cons (pv 2) pa_nil)) pa_nil))) (pv 1)) pa_nil)) (pe_callB call_lenR rfl (T.fr 1 rfl) (by decide +kernel) (pa_cons (pv 2) pa_nil))) (fun _ _ => rfl))))))), pure vs H Q E h⟩
end

abbrev s_law_is_truth : Stmt := top 27
abbrev N_law_is_truth : List Str := ["_law_thing", "_law_due"]
abbrev p_law_is_truth : List Str := ["_law_thing", "_law_due"]
theorem sc_law_is_truth : FnScope N_law_is_truth p_law_is_truth (defScope s_law_is_truth) := ⟨rfl, rfl, rfl, by decide +kernel, rfl, by decide +kernel, by decide +kernel⟩
def t_law_is_truth (P : Program) (w : World) (K : PySem.W.Frag) : TS :=
 (tRet (tAndV (tCB (rIsi K) (tCons (tVar 0) (tCons (tC (V.ty "bool")) tNil))) (tOp (rEqU K) (tVar 0) (tVar 1))))

section
variable {P : Program} {w : World} {K : PySem.W.Frag} {mg : Str → Option Value} {base : Heap}
theorem o_law_is_truth (T : Txt K mg) {f : Addr} {fd : FuncData} (F : Fd K "_law_is_truth" s_law_is_truth f fd)
    (pure : ∀ vs H Q (E : XK), spTruth vs H Q E → t_law_is_truth P w K { nx := fun _ H' => Q .non H', rt := Q } (L2.start N_law_is_truth vs) H) (len : ∀ vs H Q E, spTruth vs H Q E → vs.length = 2) : FnOk P w K mg base CX0 1 f fd p_law_is_truth spTruth :=
  F.ok sc_law_is_truth len fun cdv A outer s H vs Q E hr h => ⟨t_law_is_truth P w K, PSs.nox (by
    unfold t_law_is_truth
    exact (pss_one (ps_ret (pe_and (pe_callB call_isi rfl (T.fr 10 rfl) (by decide +kernel) (pa_cons (pv 0) (pa_cons (pe_bltn (v := V.ty "bool") rfl (T.fr 9 rfl) (by decide +kernel) rfl) pa_nil))) (pe_one (pe_cmpR (op_eqU hr.units) (pv 0) (pv 1) (nomark _))))))), pure vs H Q E h⟩
end

abbrev s_is_name : Stmt := top 7
abbrev N_is_name : List Str := ["thing", "letter"]
abbrev p_is_name : List Str := ["thing"]
theorem sc_is_name : FnScope N_is_name p_is_name (defScope s_is_name) := ⟨rfl, rfl, rfl, by decide +kernel, rfl, by decide +kernel, by decide +kernel⟩
def t_is_name_2 (P : Program) (w : World) (K : PySem.W.Frag) : TS :=
 (tRet (tC (V.bl true)))
def t_is_name_1 (P : Program) (w : World) (K : PySem.W.Frag) : TS :=
 (tSeq (tFor (iStr (tVar 0)) (gName 1) (tIfS (tTest (tOp rNotSign (tVar 1) (tC (V.str "abcdefghijklmnopqrstuvwxyz")))) (tRet (tC (V.bl false))) tNext))
 (t_is_name_2 P w K))
def t_is_name (P : Program) (w : World) (K : PySem.W.Frag) : TS :=
 (tSeq (tIfS (tOr (tNot (tB (tCB (rIsi K) (tCons (tVar 0) (tCons (tC (V.ty "str")) tNil))))) (tNot (tTest (tChain rLeI rLeI (tC (V.int 1)) (tCB (rLen K) (tCons (tVar 0) tNil)) (tC (V.int 8)))))) (tRet (tC (V.bl false))) tNext)
 (t_is_name_1 P w K))

section
variable {P : Program} {w : World} {K : PySem.W.Frag} {mg : Str → Option Value} {base : Heap}
theorem o_is_name (T : Txt K mg) {f : Addr} {fd : FuncData} (F : Fd K "is_name" s_is_name f fd)
    (pure : ∀ vs H Q (E : XK), (spIsName K) vs H Q E → t_is_name P w K { nx := fun _ H' => Q .non H', rt := Q } (L2.start N_is_name vs) H) (len : ∀ vs H Q E, (spIsName K) vs H Q E → vs.length = 1) : FnOk P w K mg base CX0 1 f fd p_is_name (spIsName K) :=
  F.ok sc_is_name len fun cdv A outer s H vs Q E hr h => ⟨t_is_name P w K, PSs.nox (by
    unfold t_is_name t_is_name_1 t_is_name_2
    exact (pss_cons (ps_if (PW.pt (pw_or (pt_not (pt_val (pe_callB call_isi rfl (T.fr 10 rfl) (by decide +kernel) (pa_cons (pv 0) (pa_cons (pe_bltn (v := V.ty "str") rfl (T.fr 6 rfl) (by decide +kernel) rfl) pa_nil))))) (pw_or1 (pt_not (pt_chain op_le op_le pe_int (pe_callB call_lenR rfl (T.fr 1 rfl) (by decide +kernel) (pa_cons (pv 0) pa_nil)) (pe_gc rfl T.most)))))) (pss_one (ps_ret pe_bl)) pss_nil)
 (pss_cons (ps_for PassesOwn.never rfl (pi_str (pv 0)) (pg_name (i := 1) sc_is_name.nd rfl (Or.inl rfl)) (pss_one (ps_if (pt_cmpR op_notSign (pv 1) (pe_gc rfl T.letters) rfl) (pss_one (ps_ret pe_bl)) pss_nil)))
 (pss_one (ps_ret pe_bl))))), pure vs H Q E h⟩
end

abbrev s_is_part : Stmt := top 8
abbrev N_is_part : List Str := ["thing"]
abbrev p_is_part : List Str := ["thing"]
theorem sc_is_part : FnScope N_is_part p_is_part (defScope s_is_part) := ⟨rfl, rfl, rfl, by decide +kernel, rfl, by decide +kernel, by decide +kernel⟩
def t_is_part (P : Program) (w : World) (K : PySem.W.Frag) : TS :=
 (tRet (tAndV (tCall (spIsName K) [] E0 (tCons (tVar 0) tNil)) (tOp (rNeU K) (tVar 0) (tC (V.str "up")))))

section
variable {P : Program} {w : World} {K : PySem.W.Frag} {mg : Str → Option Value} {base : Heap}
theorem o_is_part (T : Txt K mg) (c_is_name : Cal P w K mg base 1 "is_name" (spIsName K) []) {f : Addr} {fd : FuncData} (F : Fd K "is_part" s_is_part f fd)
    (pure : ∀ vs H Q (E : XK), (spIsPart K) vs H Q E → t_is_part P w K { nx := fun _ H' => Q .non H', rt := Q } (L2.start N_is_part vs) H) (len : ∀ vs H Q E, (spIsPart K) vs H Q E → vs.length = 1) : FnOk P w K mg base CX0 2 f fd p_is_part (spIsPart K) :=
  F.ok sc_is_part len fun cdv A outer s H vs Q E hr h => ⟨t_is_part P w K, PSs.nox (by
    unfold t_is_part
    exact (pss_one (ps_ret (pe_and (pe_c c_is_name hr (by decide) rfl (pa_cons (pv 0) pa_nil)) (pe_one (pe_cmpR (op_neU hr.units) (pv 0) pe_str (nomark _))))))), pure vs H Q E h⟩
end

abbrev s_look_name : Stmt := top 9
abbrev N_look_name : List Str := ["thing"]
abbrev p_look_name : List Str := ["thing"]
theorem sc_look_name : FnScope N_look_name p_look_name (defScope s_look_name) := ⟨rfl, rfl, rfl, by decide +kernel, rfl, by decide +kernel, by decide +kernel⟩
def t_look_name_1 (P : Program) (w : World) (K : PySem.W.Frag) : TS :=
 (tRet (tVar 0))
def t_look_name (P : Program) (w : World) (K : PySem.W.Frag) : TS :=
 (tSeq (tIfS (tNot (tB (tCall (spIsName K) [] E0 (tCons (tVar 0) tNil)))) tNever tNext)
 (t_look_name_1 P w K))

section
variable {P : Program} {w : World} {K : PySem.W.Frag} {mg : Str → Option Value} {base : Heap}
theorem o_look_name (T : Txt K mg) (c_is_name : Cal P w K mg base 1 "is_name" (spIsName K) []) {f : Addr} {fd : FuncData} (F : Fd K "look_name" s_look_name f fd)
    (pure : ∀ vs H Q (E : XK), spLookName vs H Q E → t_look_name P w K { nx := fun _ H' => Q .non H', rt := Q } (L2.start N_look_name vs) H) (len : ∀ vs H Q E, spLookName vs H Q E → vs.length = 1) : FnOk P w K mg base CX0 2 f fd p_look_name spLookName :=
  F.ok sc_look_name len fun cdv A outer s H vs Q E hr h => ⟨t_look_name P w K, PSs.nox (by
    unfold t_look_name t_look_name_1
    exact (pss_cons (ps_if (pt_not (pt_val (pe_c c_is_name hr (by decide) rfl (pa_cons (pv 0) pa_nil)))) (pss_one ps_never) pss_nil)
 (pss_one (ps_ret (pv 0))))), pure vs H Q E h⟩
end

abbrev s_look_parts : Stmt := top 10
abbrev N_look_parts : List Str := ["things", "thing"]
abbrev p_look_parts : List Str := ["things"]
theorem sc_look_parts : FnScope N_look_parts p_look_parts (defScope s_look_parts) := ⟨rfl, rfl, rfl, by decide +kernel, rfl, by decide +kernel, by decide +kernel⟩
def t_look_parts_1 (P : Program) (w : World) (K : PySem.W.Frag) : TS :=
 (tRet (tCB (rTupOf K) (tCons (tVar 0) tNil)))
def t_look_parts (P : Program) (w : World) (K : PySem.W.Frag) : TS :=
 (tSeq (tFor (iTup K (tVar 0)) (gName 1) (tIfS (tNot (tB (tCall (spIsPart K) [] E0 (tCons (tVar 1) tNil)))) tNever tNext))
 (t_look_parts_1 P w K))

section
variable {P : Program} {w : World} {K : PySem.W.Frag} {mg : Str → Option Value} {base : Heap}
theorem o_look_parts (T : Txt K mg) (c_is_part : Cal P w K mg base 2 "is_part" (spIsPart K) []) {f : Addr} {fd : FuncData} (F : Fd K "look_parts" s_look_parts f fd)
    (pure : ∀ vs H Q (E : XK), (spLookParts K) vs H Q E → t_look_parts P w K { nx := fun _ H' => Q .non H', rt := Q } (L2.start N_look_parts vs) H) (len : ∀ vs H Q E, (spLookParts K) vs H Q E → vs.length = 1) : FnOk P w K mg base CX0 3 f fd p_look_parts (spLookParts K) :=
  F.ok sc_look_parts len fun cdv A outer s H vs Q E hr h => ⟨t_look_parts P w K, PSs.nox (by
    unfold t_look_parts t_look_parts_1
    exact (pss_cons (ps_for PassesOwn.never rfl (pi_tup (pv 0)) (pg_name (i := 1) sc_look_parts.nd rfl (Or.inl rfl)) (pss_one (ps_if (pt_not (pt_val (pe_c c_is_part hr (by decide) rfl (pa_cons (pv 1) pa_nil)))) (pss_one ps_never) pss_nil)))
 (pss_one (ps_ret (pe_callTy call_tupOf rfl (T.fr 8 rfl) (by decide +kernel) (pa_cons (pv 0) pa_nil)))))), pure vs H Q E h⟩
end

abbrev s_look_once : Stmt := top 11
abbrev N_look_once : List Str := ["names", "seen", "name"]
abbrev p_look_once : List Str := ["names"]
theorem sc_look_once : FnScope N_look_once p_look_once (defScope s_look_once) := ⟨rfl, rfl, rfl, by decide +kernel, rfl, by decide +kernel, by decide +kernel⟩
def t_look_once_1 (P : Program) (w : World) (K : PySem.W.Frag) : TS :=
 (tFor (iSq K (tVar 0)) (gName 2) (tSeq (tIfS (tTest (tOp (rSInK P w false) (tVar 2) (tVar 1))) tNever tNext)
 (tDrop (tSAddK P w (tVar 1) (tCons (tVar 2) tNil)))))
def t_look_once (P : Program) (w : World) (K : PySem.W.Frag) : TS :=
 (tSeq (tAsg (tCB (rSet0K P w) tNil) (gName 1))
 (t_look_once_1 P w K))

section
variable {P : Program} {w : World} {K : PySem.W.Frag} {mg : Str → Option Value} {base : Heap}
theorem o_look_once (T : Txt K mg) {f : Addr} {fd : FuncData} (F : Fd K "look_once" s_look_once f fd)
    (pure : ∀ vs H Q (E : XK), (spLookOnce K) vs H Q E → t_look_once P w K { nx := fun _ H' => Q .non H', rt := Q } (L2.start N_look_once vs) H) (len : ∀ vs H Q E, (spLookOnce K) vs H Q E → vs.length = 1) : FnOk P w K mg base CX0 1 f fd p_look_once (spLookOnce K) :=
  F.ok sc_look_once len fun cdv A outer s H vs Q E hr h => ⟨t_look_once P w K, PSs.nox (by
    unfold t_look_once t_look_once_1
    exact (pss_cons (ps_set (i := 1) sc_look_once.nd rfl (Or.inl rfl) (pe_callTy0 cr_set0K rfl (T.fr 11 rfl) (by decide +kernel)))
 (pss_one (ps_for PassesOwn.never rfl (pi_sq (pv 0)) (pg_name (i := 2) sc_look_once.nd rfl (Or.inl rfl)) (pss_cons (ps_if (pt_cmpR or_sinK (pv 2) (pv 1) rfl) (pss_one ps_never) pss_nil)
 (pss_one (ps_expr (pe_saddK (pv 1) (pa_cons (pv 2) pa_nil))))))))), pure vs H Q E h⟩
end
end E

namespace E
open PySem L2 Evl SX StX
local macro_rules | `(tactic| walk_at "g1") => `(tactic| first
  | with_reducible refine g_seq ?_
  | with_reducible refine g_asg ?_
  | with_reducible refine g_name ?_
  | with_reducible refine g_c ?_
  | with_reducible refine g_op ?_
  | with_reducible refine g_cons ?_
  | with_reducible refine g_nil ?_
  | with_reducible refine g_cb ?_
  | with_reducible refine g_ret ?_
  | with_reducible refine g_ifS ?_
  | with_reducible refine g_test ?_
  | with_reducible refine g_isB ?_
  | with_reducible refine g_I0 ?_
  | with_reducible refine g_subI ?_
  | with_reducible refine g_ltI ?_
  | with_reducible refine g_leI ?_
  | with_reducible refine g_gtI ?_
  | with_reducible refine g_geI ?_
  | with_reducible refine g_negI ?_
  | with_reducible refine g_isN ?_
  | with_reducible refine g_notN ?_
  | with_reducible refine g_call ?_
  | with_reducible refine g_tup ?_
  | with_reducible refine g_lst ?_
  | with_reducible refine g_sub ?_
  | with_reducible refine g_par ?_
  | with_reducible refine g_m1 ?_
  | with_reducible refine g_yes ?_
  | with_reducible refine g_lc ?_
  | with_reducible refine g_iRng1 ?_
  | with_reducible refine g_iList ?_
  | with_reducible refine g_iTup ?_
  | with_reducible refine g_iStr ?_
  | with_reducible refine g_part ?_
  | with_reducible refine g_gTup ?_
  | with_reducible refine g_gCons ?_
  | with_reducible refine g_gNil ?_
  | with_reducible refine g_tru ?_
  | with_reducible refine g_sl ?_
  | with_reducible refine g_noPart ?_
  | with_reducible refine g_int ?_
  | with_reducible refine g_addI ?_
  | with_reducible refine g_next ?_
  | with_reducible refine g_drop ?_
  | with_reducible refine g_and ?_
  | with_reducible refine g_or ?_
  | with_reducible refine g_not ?_
  | with_reducible refine g_tB ?_
  | with_reducible refine g_andV ?_
  | with_reducible refine g_orV ?_
  | with_reducible refine g_notV ?_
  | with_reducible refine g_if ?_
  | with_reducible refine g_un ?_
  | with_reducible refine g_U ?_
  | with_reducible refine g_chain ?_
  | with_reducible refine g_retN ?_
  | with_reducible refine g_abs ?_
  | with_reducible refine g_min ?_
  | with_reducible refine g_max ?_
  | with_reducible refine iteT ?_
  | with_reducible refine iteF ?_
  | ((with_reducible show tVar _ _ _ _); refine g_var rfl ?_))
local macro_rules | `(tactic| walk_at "g") => `(tactic| repeat (walk_at "g1"))
local macro_rules | `(tactic| walk_at "hp") => `(tactic| repeat (first
  | assumption
  | refine SqL.of ?_
  | refine SqT.of ?_
  | refine Vw.ex (by assumption) _ _ ?_
  | refine (by assumption : Evl.Ex _ _) _ _ ?_))
local macro_rules | `(tactic| walk_at "b") => `(tactic| first
  | with_reducible refine iteT ?_
  | with_reducible refine iteF ?_
  | with_reducible refine b_d (fun h => ?_) (fun h => ?_)
  | with_reducible refine b_n (fun h => ?_) (fun h => ?_)
  | with_reducible refine b_nb (fun h => ?_) (fun h => ?_)
  | with_reducible refine b_b (fun h => ?_) (fun h => ?_))
local macro_rules | `(tactic| walk_at "al") => `(tactic| first
  | with_reducible refine al_T (by assumption) (Nat.le_of_ble_eq_true (by with_unfolding_all rfl)) (fun p G' H' e gp hp w' => ?_)
  | with_reducible refine al_L (by assumption) (Nat.le_of_ble_eq_true (by with_unfolding_all rfl)) (fun p G' H' e gp hp w' => ?_))
local macro_rules | `(tactic| walk_at "ga") => `(tactic| repeat (first | walk_at "g1" | walk_at "al"))
section
variable {P : Program} {w : World} {K : PySem.W.Frag}
theorem pow10_18 : (10 : Int) ^ (18 : Int).toNat = 1000000000000000000 := by decide +kernel
theorem p_law_draw' (vs : List V) (H : Hp) (Q : VK) (E : XK) (h : spDraw vs H Q E) : t_law_draw P w K { nx := fun _ H' => Q .non H', rt := Q } (L2.start N_law_draw vs) H := by
  obtain ⟨b, n, many, M, G, rfl, w1, hm, hm2, k⟩ := h
  obtain ⟨o, hb, d, m, c, rfl, ok⟩ := w1.get
  have o1 := ok.d0; have o2 := ok.m0; have o3 := ok.m1; have o4 := ok.c0; have o5 := ok.c1
  change t_law_draw P w K _ [some (V.ref b), some (V.int many), none, none] H
  unfold t_law_draw t_law_draw_1 t_law_draw_2 t_law_draw_3 t_law_draw_4
  walk_at "g"
  refine g_ixL (SqL.of hb) rfl ?_
  walk_at "g"
  walk_at "b"
  · walk_at "g"
    refine g_ixL (SqL.of hb) rfl ?_
    walk_at "g"
    refine g_modI hm ?_
    walk_at "g"
    refine g_ixL (SqL.of hb) rfl ?_
    walk_at "g"
    refine g_divI (wide_div hm hm2 (by decide) (by decide)) ?_
    walk_at "g"
    refine g_setL hb rfl ?_
    walk_at "g"
    refine k _ _ (Int.emod_nonneg _ (by omega)) (Int.emod_lt_of_pos _ hm) (w1.put ⟨d / many, m, c, rfl, Int.ediv_nonneg o1 (by omega), o2, o3, o4, by omega⟩)
  · walk_at "g"
    refine g_ixL (SqL.of hb) rfl ?_
    walk_at "g"
    refine g_setL hb rfl ?_
    have hb2 : upd H b (.lst [V.int d, V.int m, V.int (c + 1)]) b = some (.lst [V.int d, V.int m, V.int (c + 1)]) := upd_same
    change tSeq _ _ _ _ (upd H b (.lst [V.int d, V.int m, V.int (c + 1)]))
    walk_at "g"
    refine g_ixL (SqL.of hb2) rfl ?_
    walk_at "g"
    refine g_ixL (SqL.of hb2) rfl ?_
    walk_at "g"
    refine g_mulL ⟨by decide, by decide⟩ ?_
    walk_at "g"
    refine g_powI ⟨by decide, by decide, by omega⟩ ?_
    walk_at "g"
    refine g_modI (by decide) ?_
    generalize hx : ((m + 1000003 * (c + 1)) ^ (3 : Int).toNat) % (2305843009213693921 : Int) = x
    have x0 : 0 ≤ x := by rw [← hx]; exact Int.emod_nonneg _ (by decide)
    have x1 : x < 2305843009213693921 := by rw [← hx]; exact Int.emod_lt_of_pos _ (by decide)
    walk_at "g"
    refine g_ixL (SqL.of hb2) rfl ?_
    walk_at "g"
    refine g_mulL ⟨by decide, by decide⟩ ?_
    walk_at "g"
    refine g_powI ⟨by decide, by decide, by omega⟩ ?_
    walk_at "g"
    refine g_modI (by decide) ?_
    generalize ((x + 32452867 * (c + 1)) ^ (2 : Int).toNat) % (2305843009213693951 : Int) = y
    walk_at "g"
    refine g_divI (wide_div (b := 20) (by decide) (by decide) (by decide) (by decide)) ?_
    walk_at "g"
    refine g_modI hm ?_
    exact k _ _ (Int.emod_nonneg _ (by omega)) (Int.emod_lt_of_pos _ hm) (w1.put ⟨d, m, c + 1, rfl, o1, o2, o3, by omega, by omega⟩)
theorem p_law_bagged' (vs : List V) (H : Hp) (Q : VK) (E : XK) (h : spBagged K vs H Q E) : t_law_bagged P w K { nx := fun _ H' => Q .non H', rt := Q } (L2.start N_law_bagged vs) H := by
  obtain ⟨a, at_, ns, M, G, rfl, w1, hs, h0, h1, k⟩ := h
  have hs' : SqL K H a (ns.map V.int) := ex_l w1.ex hs
  have fin : ∀ z g : Int, 0 ≤ g → t_law_bagged_2 P w K { nx := fun _ H' => Q .non H', rt := Q } [some (V.ref a), some (V.int at_), some (V.int z), some (V.int g)] H := by
    intro z g hg
    unfold t_law_bagged_2
    walk_at "g"
    refine g_modI (by decide) ?_
    have y0 : 0 ≤ z % 2305843009213693951 := Int.emod_nonneg _ (by decide)
    have y1 : z % 2305843009213693951 < 2305843009213693951 := Int.emod_lt_of_pos _ (by decide)
    walk_at "g"
    refine g_mulR ⟨by decide, by decide⟩ ?_
    walk_at "g"
    refine g_mulL ⟨by decide, by decide⟩ ?_
    walk_at "g"
    refine al_Lm w1 (Nat.le_of_ble_eq_true rfl) fun p H' gp w2 => ?_
    refine k p H' gp (w2.imp fun o e => ?_)
    subst e
    exact ⟨_, _, _, rfl, hg, by omega, by omega, by decide, by decide⟩
  have rest : ∀ z : Int, t_law_bagged_1 P w K { nx := fun _ H' => Q .non H', rt := Q } [some (V.ref a), some (V.int at_), some (V.int z), none] H := by
    intro z
    unfold t_law_bagged_1
    walk_at "g"
    refine g_powI ⟨by decide, by decide, by decide⟩ ?_
    walk_at "g"
    walk_at "b"
    · walk_at "g"
      exact fin _ _ (by split <;> omega)
    · walk_at "g"
      exact fin _ _ (by decide)
  change t_law_bagged P w K _ [some (V.ref a), some (V.int at_), none, none] H
  unfold t_law_bagged
  walk_at "g"
  refine g_lenL hs' ?_
  walk_at "g"
  refine b_d (fun h => ?_) (fun h => ?_)
  · walk_at "g"
    rw [List.length_map] at h
    have l : at_.toNat < ns.length := by omega
    refine g_ixL (v := .int ns[at_.toNat]) hs' (atI_of h0 (by rw [List.getElem?_map, List.getElem?_eq_getElem l]; rfl)) ?_
    walk_at "g"
    exact rest _
  · walk_at "g"
    exact rest _
theorem p_law_of' (vs : List V) (H : Hp) (Q : VK) (E : XK) (h : spOf K vs H Q E) : t_law_of P w K { nx := fun _ H' => Q .non H', rt := Q } (L2.start N_law_of vs) H := by
  obtain ⟨b, l, n, xs, M, G, rfl, w1, hs, hne, hl, k⟩ := h
  have hs' : SqL K H l xs := ex_l w1.ex hs
  change t_law_of P w K _ [some (V.ref b), some (V.ref l)] H
  unfold t_law_of
  have hp : 0 < xs.length := List.length_pos_iff.mpr hne
  walk_at "g"
  refine g_lenL hs' ?_
  walk_at "g"
  refine ⟨b, n, _, M, G, rfl, w1, by omega, Nat.lt_of_le_of_lt (m := 1000) (by omega) (by decide), fun r H' r0 r1 w2 => ?_⟩
  have lt : r.toNat < xs.length := by omega
  refine g_ixL (v := xs[r.toNat]) (ex_l w2.ex hs) (atI_of r0 (List.getElem?_eq_getElem lt)) ?_
  exact k r.toNat _ H' (List.getElem?_eq_getElem lt) w2
end
end E

namespace E
open PySem L2 Evl SX StX
local macro_rules | `(tactic| walk_at "g1") => `(tactic| first
  | with_reducible refine g_seq ?_
  | with_reducible refine g_asg ?_
  | with_reducible refine g_name ?_
  | with_reducible refine g_c ?_
  | with_reducible refine g_op ?_
  | with_reducible refine g_cons ?_
  | with_reducible refine g_nil ?_
  | with_reducible refine g_cb ?_
  | with_reducible refine g_ret ?_
  | with_reducible refine g_ifS ?_
  | with_reducible refine g_test ?_
  | with_reducible refine g_isB ?_
  | with_reducible refine g_I0 ?_
  | with_reducible refine g_subI ?_
  | with_reducible refine g_ltI ?_
  | with_reducible refine g_leI ?_
  | with_reducible refine g_gtI ?_
  | with_reducible refine g_geI ?_
  | with_reducible refine g_negI ?_
  | with_reducible refine g_isN ?_
  | with_reducible refine g_notN ?_
  | with_reducible refine g_call ?_
  | with_reducible refine g_tup ?_
  | with_reducible refine g_lst ?_
  | with_reducible refine g_sub ?_
  | with_reducible refine g_par ?_
  | with_reducible refine g_m1 ?_
  | with_reducible refine g_yes ?_
  | with_reducible refine g_lc ?_
  | with_reducible refine g_iRng1 ?_
  | with_reducible refine g_iList ?_
  | with_reducible refine g_iTup ?_
  | with_reducible refine g_iStr ?_
  | with_reducible refine g_part ?_
  | with_reducible refine g_gTup ?_
  | with_reducible refine g_gCons ?_
  | with_reducible refine g_gNil ?_
  | with_reducible refine g_tru ?_
  | with_reducible refine g_sl ?_
  | with_reducible refine g_noPart ?_
  | with_reducible refine g_int ?_
  | with_reducible refine g_addI ?_
  | with_reducible refine g_next ?_
  | with_reducible refine g_drop ?_
  | with_reducible refine g_and ?_
  | with_reducible refine g_or ?_
  | with_reducible refine g_not ?_
  | with_reducible refine g_tB ?_
  | with_reducible refine g_andV ?_
  | with_reducible refine g_orV ?_
  | with_reducible refine g_notV ?_
  | with_reducible refine g_if ?_
  | with_reducible refine g_un ?_
  | with_reducible refine g_U ?_
  | with_reducible refine g_chain ?_
  | with_reducible refine g_retN ?_
  | with_reducible refine g_abs ?_
  | with_reducible refine g_min ?_
  | with_reducible refine g_max ?_
  | with_reducible refine iteT ?_
  | with_reducible refine iteF ?_
  | ((with_reducible show tVar _ _ _ _); refine g_var rfl ?_))
local macro_rules | `(tactic| walk_at "g") => `(tactic| repeat (walk_at "g1"))
local macro_rules | `(tactic| walk_at "hp") => `(tactic| repeat (first
  | assumption
  | refine SqL.of ?_
  | refine SqT.of ?_
  | refine Vw.ex (by assumption) _ _ ?_
  | refine (by assumption : Evl.Ex _ _) _ _ ?_))
local macro_rules | `(tactic| walk_at "b") => `(tactic| first
  | with_reducible refine iteT ?_
  | with_reducible refine iteF ?_
  | with_reducible refine b_d (fun h => ?_) (fun h => ?_)
  | with_reducible refine b_n (fun h => ?_) (fun h => ?_)
  | with_reducible refine b_nb (fun h => ?_) (fun h => ?_)
  | with_reducible refine b_b (fun h => ?_) (fun h => ?_))
local macro_rules | `(tactic| walk_at "al") => `(tactic| first
  | with_reducible refine al_T (by assumption) (Nat.le_of_ble_eq_true (by with_unfolding_all rfl)) (fun p G' H' e gp hp w' => ?_)
  | with_reducible refine al_L (by assumption) (Nat.le_of_ble_eq_true (by with_unfolding_all rfl)) (fun p G' H' e gp hp w' => ?_))
local macro_rules | `(tactic| walk_at "ga") => `(tactic| repeat (first | walk_at "g1" | walk_at "al"))
section
variable {P : Program} {w : World} {K : PySem.W.Frag}
theorem p_law_is_truth' (vs : List V) (H : Hp) (Q : VK) (E : XK) (h : spTruth vs H Q E) : t_law_is_truth P w K { nx := fun _ H' => Q .non H', rt := Q } (L2.start N_law_is_truth vs) H := by
  obtain ⟨b, c, rfl, k⟩ := h
  change t_law_is_truth P w K _ [some (V.bl b), some (V.bl c)] H
  unfold t_law_is_truth
  walk_at "g"
  refine g_isi (b := true) (.base (.bl b)) (by decide +kernel) ?_
  walk_at "g"
  refine g_eqS rfl ?_
  have e : decide (V.bl b = V.bl c) = decide (b = c) := by cases b <;> cases c <;> rfl
  rw [e]
  exact k
theorem p_is_name' (vs : List V) (H : Hp) (Q : VK) (E : XK) (h : spIsName K vs H Q E) : t_is_name P w K { nx := fun _ H' => Q .non H', rt := Q } (L2.start N_is_name vs) H := by
  obtain ⟨v, rfl, hv, k⟩ := h
  change t_is_name P w K _ [some v, none] H
  unfold t_is_name
  walk_at "g"
  refine g_isiStr hv ?_
  walk_at "g"
  by_cases hs : ∃ x, v = .str x
  · obtain ⟨x, rfl⟩ := hs
    have hl : x.length ≤ 100000 := by
      rcases hv with h | ⟨_, h⟩ | ⟨_, h⟩ | ⟨y, h, l⟩ | ⟨_, _, h, _⟩ | ⟨_, _, h, _⟩
      · cases h
      · cases h
      · cases h
      · cases h
        exact l
      · cases h
      · cases h
    refine b_f rfl ?_
    walk_at "g"
    refine g_lenS (sz_of hl) ?_
    walk_at "g"
    have main : 1 ≤ x.length → x.length ≤ 8 → t_is_name_1 P w K { nx := fun _ H' => Q .non H', rt := Q } [some (.str x), none] H := by
      intro l1 l2
      unfold t_is_name_1
      walk_at "g"
      refine ⟨_, rfl, x, rfl, ?_⟩
      refine for_str (fun i σ H' => H' = H ∧ (∃ z, σ = [some (.str x), z]) ∧ ∀ c ∈ x.cps.toList.take i, 97 ≤ c ∧ c ≤ 122) ⟨rfl, ⟨_, rfl⟩, fun c hc => by simp at hc⟩ ?_ ?_
      · rintro i c σ H' hi ⟨rfl, ⟨z, rfl⟩, al⟩
        have mem : c ∈ x.cps.toList := List.mem_of_getElem? hi
        walk_at "g"
        refine g_notSign ?_
        walk_at "g"
        refine b_n (fun h => ?_) (fun h => ?_)
        · walk_at "g"
          rw [letters_mem] at h
          have e : isNm (.str x) = false := nmS_not mem h
          rw [e] at k
          exact k
        · walk_at "g"
          rw [letters_mem] at h
          refine ⟨rfl, ⟨_, rfl⟩, fun d hd => ?_⟩
          rw [List.take_succ, hi] at hd
          rcases List.mem_append.mp hd with hd | hd
          · exact al d hd
          · simp at hd
            subst hd
            exact h
      · rintro σ H' ⟨rfl, ⟨z, rfl⟩, al⟩
        unfold t_is_name_2
        walk_at "g"
        have e : isNm (.str x) = true := nmS_of l1 l2 (fun c hc => al c (by rw [List.take_of_length_le (by simp [Str.length])]; exact hc))
        rw [e] at k
        exact k
    have no : ¬ (1 ≤ x.length ∧ x.length ≤ 8) → nmS x = false := fun h => by
      cases e : nmS x with
      | false => rfl
      | true => exact absurd (nmS_len e) h
    refine b_d (fun h => ?_) (fun h => ?_)
    · walk_at "g"
      refine b_n (fun h2 => ?_) (fun h2 => ?_)
      · walk_at "g"
        have e : isNm (.str x) = false := no (by omega)
        rw [e] at k
        exact k
      · walk_at "g"
        exact main (by omega) (by omega)
    · walk_at "g"
      have e : isNm (.str x) = false := no (by omega)
      rw [e] at k
      exact k
  · have e1 : isStrV v = false := by
      cases v with
      | str x => exact absurd ⟨x, rfl⟩ hs
      | _ => rfl
    have e2 : isNm v = false := by
      cases v with
      | str x => exact absurd ⟨x, rfl⟩ hs
      | _ => rfl
    refine b_t (by rw [e1]; rfl) ?_
    walk_at "g"
    rw [e2] at k
    exact k
theorem p_is_part' (vs : List V) (H : Hp) (Q : VK) (E : XK) (h : spIsPart K vs H Q E) : t_is_part P w K { nx := fun _ H' => Q .non H', rt := Q } (L2.start N_is_part vs) H := by
  obtain ⟨v, rfl, hv, k⟩ := h
  change t_is_part P w K _ [some v] H
  unfold t_is_part
  walk_at "g"
  refine ⟨v, rfl, hv, ?_⟩
  walk_at "g"
  refine b_b (fun h => ?_) (fun h => ?_)
  · cases v with
    | str x =>
      walk_at "g"
      refine g_neS rfl ?_
      rw [h, Bool.true_and] at k
      exact k
    | _ => cases h
  · rw [h, Bool.false_and] at k
    exact k
theorem p_look_name' (vs : List V) (H : Hp) (Q : VK) (E : XK) (h : spLookName vs H Q E) : t_look_name P w K { nx := fun _ H' => Q .non H', rt := Q } (L2.start N_look_name vs) H := by
  obtain ⟨x, rfl, hx, k⟩ := h
  change t_look_name P w K _ [some (.str x)] H
  unfold t_look_name
  walk_at "g"
  have := nmS_len hx
  refine ⟨.str x, rfl, .str (by omega), ?_⟩
  walk_at "g"
  refine b_f (by show (!nmS x) = false; rw [hx]; rfl) ?_
  unfold t_look_name_1
  walk_at "g"
  exact k
theorem p_look_parts' (vs : List V) (H : Hp) (Q : VK) (E : XK) (h : spLookParts K vs H Q E) : t_look_parts P w K { nx := fun _ H' => Q .non H', rt := Q } (L2.start N_look_parts vs) H := by
  obtain ⟨a, ws, rfl, hs, hw, k⟩ := h
  change t_look_parts P w K _ [some (.ref a), none] H
  unfold t_look_parts
  walk_at "g"
  refine ⟨_, rfl, a, rfl, ⟨_, hs⟩, for_tup (K := K) (a := a) (xs := ws.map V.str) (fun i σ H' => H' = H ∧ ∃ z, σ = [some (.ref a), z]) ⟨rfl, _, rfl⟩ (fun i σ H' _ ⟨e, _⟩ => by rw [e]; exact hs) ?_ ?_⟩
  · rintro i y σ H' hi ⟨rfl, z, rfl⟩
    obtain ⟨x, hx, rfl⟩ : ∃ x ∈ ws, y = V.str x := by
      have := List.mem_of_getElem? hi
      obtain ⟨x, hx, e⟩ := List.mem_map.mp this
      exact ⟨x, hx, e.symm⟩
    have hl := nmS_len (hw x hx).1
    walk_at "g"
    refine ⟨.str x, rfl, .str (by omega), ?_⟩
    walk_at "g"
    refine b_f (by
      have e : isNm (.str x) = true := (hw x hx).1
      have e2 : decide (V.str x = V.str "up") = false := decide_eq_false fun z => (hw x hx).2 (V.str.inj z)
      rw [e, e2]; rfl) ?_
    walk_at "g"
    exact ⟨rfl, _, rfl⟩
  · rintro σ H' ⟨rfl, z, rfl⟩
    unfold t_look_parts_1
    walk_at "g"
    exact ⟨a, _, rfl, Or.inr ⟨hs, k⟩⟩
theorem p_look_once' (vs : List V) (H : Hp) (Q : VK) (E : XK) (h : spLookOnce K vs H Q E) : t_look_once P w K { nx := fun _ H' => Q .non H', rt := Q } (L2.start N_look_once vs) H := by
  obtain ⟨l, ws, M, G, rfl, w1, hs, nd, hl, k⟩ := h
  change t_look_once P w K _ [some (.ref l), none, none] H
  unfold t_look_once
  walk_at "g"
  refine ⟨rfl, fun p hp => ?_⟩
  walk_at "g"
  have w2 := w1.newM hp (φ := fun o => ∃ (S : Key → Bool) (n : Nat), o = SetK P w p S n ∧ n ≤ 0 ∧ ∀ x, S (Sum.inr x) = true ↔ x ∈ ws.take 0) (o := SetK P w p (fun _ => false) 0) ⟨_, _, rfl, Nat.le_refl _, fun x => by simp⟩
  generalize upd H p (SetK P w p (fun _ => false) 0) = H2 at w2 ⊢
  unfold t_look_once_1
  refine ⟨_, rfl, l, rfl, for_sq (K := K) (a := l) (xs := ws.map V.str) (fun i σ H' => (∃ z, σ = [some (.ref l), some (.ref p), z]) ∧ Vw ((p, fun o => ∃ (S : Key → Bool) (n : Nat), o = SetK P w p S n ∧ n ≤ i ∧ ∀ x, S (Sum.inr x) = true ↔ x ∈ ws.take i) :: M) G H')
    ⟨⟨_, rfl⟩, w2⟩ hs (fun i σ H' ⟨_, w3⟩ => w3.ex) ?_ ?_⟩
  · rintro i y σ H' hi ⟨⟨z, rfl⟩, w3⟩
    obtain ⟨x, hx, rfl⟩ : ∃ x, ws[i]? = some x ∧ y = V.str x := by
      rw [List.getElem?_map] at hi
      cases e : ws[i]? with
      | none => rw [e] at hi; cases hi
      | some x => rw [e] at hi; exact ⟨x, rfl, (Option.some.inj hi).symm⟩
    obtain ⟨o, ho, S, n, rfl, hn, hS⟩ := w3.get
    have nin : x ∉ ws.take i := fun hm => by
      obtain ⟨j, hj⟩ := List.mem_iff_getElem?.mp hm
      have hji : j < i := by
        have := (List.getElem?_eq_some_iff.mp hj).1
        rw [List.length_take] at this
        omega
      rw [List.getElem?_take_of_lt hji] at hj
      exact absurd (L2.nodup_ix nd hj hx) (by omega)
    have hSx : S (Sum.inr x) = false := by
      cases e : S (Sum.inr x) with
      | false => rfl
      | true => exact absurd ((hS x).mp e) nin
    have li := (List.getElem?_eq_some_iff.mp hx).1
    walk_at "g"
    refine ⟨Sum.inr x, p, S, n, rfl, rfl, ho, ?_⟩
    walk_at "g"
    refine b_f hSx ?_
    walk_at "g"
    refine ⟨_, rfl, ⟨p, S, n, rfl, ho⟩, _, rfl, ⟨p, Sum.inr x, S, n, rfl, rfl, ho, by show n + 1 < 4096; omega, ?_⟩⟩
    refine ⟨⟨_, rfl⟩, w3.put ⟨_, _, rfl, by split <;> omega, fun u => ?_⟩⟩
    rw [List.take_succ, hx]
    show (S (Sum.inr u) || decide ((Sum.inr u : Key) = Sum.inr x)) = true ↔ _
    rw [Bool.or_eq_true, hS u, List.mem_append]
    simp
  · rintro σ H' ⟨⟨z, rfl⟩, w3⟩
    exact k H' w3.tail
end
end E

namespace E
open PySem L2 Evl SX StX
local macro_rules | `(tactic| walk_at "g1") => `(tactic| first
  | with_reducible refine g_seq ?_
  | with_reducible refine g_asg ?_
  | with_reducible refine g_name ?_
  | with_reducible refine g_c ?_
  | with_reducible refine g_op ?_
  | with_reducible refine g_cons ?_
  | with_reducible refine g_nil ?_
  | with_reducible refine g_cb ?_
  | with_reducible refine g_ret ?_
  | with_reducible refine g_ifS ?_
  | with_reducible refine g_test ?_
  | with_reducible refine g_isB ?_
  | with_reducible refine g_I0 ?_
  | with_reducible refine g_subI ?_
  | with_reducible refine g_ltI ?_
  | with_reducible refine g_leI ?_
  | with_reducible refine g_gtI ?_
  | with_reducible refine g_geI ?_
  | with_reducible refine g_negI ?_
  | with_reducible refine g_isN ?_
  | with_reducible refine g_notN ?_
  | with_reducible refine g_call ?_
  | with_reducible refine g_tup ?_
  | with_reducible refine g_lst ?_
  | with_reducible refine g_sub ?_
  | with_reducible refine g_par ?_
  | with_reducible refine g_m1 ?_
  | with_reducible refine g_yes ?_
  | with_reducible refine g_lc ?_
  | with_reducible refine g_iRng1 ?_
  | with_reducible refine g_iList ?_
  | with_reducible refine g_iTup ?_
  | with_reducible refine g_iStr ?_
  | with_reducible refine g_part ?_
  | with_reducible refine g_gTup ?_
  | with_reducible refine g_gCons ?_
  | with_reducible refine g_gNil ?_
  | with_reducible refine g_tru ?_
  | with_reducible refine g_sl ?_
  | with_reducible refine g_noPart ?_
  | with_reducible refine g_int ?_
  | with_reducible refine g_addI ?_
  | with_reducible refine g_next ?_
  | with_reducible refine g_drop ?_
  | with_reducible refine g_and ?_
  | with_reducible refine g_or ?_
  | with_reducible refine g_not ?_
  | with_reducible refine g_tB ?_
  | with_reducible refine g_andV ?_
  | with_reducible refine g_orV ?_
  | with_reducible refine g_notV ?_
  | with_reducible refine g_if ?_
  | with_reducible refine g_un ?_
  | with_reducible refine g_U ?_
  | with_reducible refine g_chain ?_
  | with_reducible refine g_retN ?_
  | with_reducible refine g_abs ?_
  | with_reducible refine g_min ?_
  | with_reducible refine g_max ?_
  | with_reducible refine iteT ?_
  | with_reducible refine iteF ?_
  | ((with_reducible show tVar _ _ _ _); refine g_var rfl ?_))
local macro_rules | `(tactic| walk_at "g") => `(tactic| repeat (walk_at "g1"))
local macro_rules | `(tactic| walk_at "hp") => `(tactic| repeat (first
  | assumption
  | refine SqL.of ?_
  | refine SqT.of ?_
  | refine Vw.ex (by assumption) _ _ ?_
  | refine (by assumption : Evl.Ex _ _) _ _ ?_))
local macro_rules | `(tactic| walk_at "b") => `(tactic| first
  | with_reducible refine iteT ?_
  | with_reducible refine iteF ?_
  | with_reducible refine b_d (fun h => ?_) (fun h => ?_)
  | with_reducible refine b_n (fun h => ?_) (fun h => ?_)
  | with_reducible refine b_nb (fun h => ?_) (fun h => ?_)
  | with_reducible refine b_b (fun h => ?_) (fun h => ?_))
local macro_rules | `(tactic| walk_at "al") => `(tactic| first
  | with_reducible refine al_T (by assumption) (Nat.le_of_ble_eq_true (by with_unfolding_all rfl)) (fun p G' H' e gp hp w' => ?_)
  | with_reducible refine al_L (by assumption) (Nat.le_of_ble_eq_true (by with_unfolding_all rfl)) (fun p G' H' e gp hp w' => ?_))
local macro_rules | `(tactic| walk_at "ga") => `(tactic| repeat (first | walk_at "g1" | walk_at "al"))
section
variable {P : Program} {w : World} {K : PySem.W.Frag}
theorem list_of {α : Type} {p : α → Prop} {f : α → V} : ∀ {xs : List V}, (∀ v ∈ xs, ∃ c, p c ∧ v = f c) → ∃ cs : List α, xs = cs.map f ∧ ∀ c ∈ cs, p c
  | [], _ => ⟨[], rfl, fun c h => by simp at h⟩
  | v :: xs, h => by
    obtain ⟨c, pc, rfl⟩ := h v List.mem_cons_self
    obtain ⟨cs, e, hc⟩ := list_of (xs := xs) fun u hu => h u (List.mem_cons_of_mem _ hu)
    refine ⟨c :: cs, by rw [e]; rfl, fun d hd => ?_⟩
    rcases List.mem_cons.mp hd with rfl | hd
    · exact pc
    · exact hc d hd
theorem joinL_one : ∀ cs : List Nat, TL.joinL [] (cs.map fun c => [c]) = cs
  | [] => rfl
  | [_] => rfl
  | c :: d :: r => by
    have e := joinL_one (d :: r)
    show [c] ++ ([] ++ TL.joinL [] ((d :: r).map fun c => [c])) = c :: d :: r
    rw [e]
    rfl
theorem empty_S : ("" : Str) = S [] := by decide +kernel
theorem join_one (cs : List Nat) : Txt.join ("" : Str) (cs.map fun c => S [c]) = S cs := by
  rw [empty_S]
  have e := join_S [] (cs.map fun c => [c])
  rw [joinL_one] at e
  rw [List.map_map] at e
  exact e
theorem sum_one : ∀ cs : List Nat, ((cs.map fun c => S [c]).map (·.length)).sum = cs.length
  | [] => rfl
  | c :: cs => by
    show (S [c]).length + ((cs.map fun c => S [c]).map (·.length)).sum = cs.length + 1
    rw [sum_one cs, S_len]
    simp
    omega
def ltr (c : Nat) : Prop := 97 ≤ c ∧ c ≤ 122
/-- "".join([letters[draw(26)] for turn in range(draw(n))]) -/
theorem words_join {b : Addr} {n : Nat} {m : V} {q : Int} (hq : 0 < q ∧ q ≤ 5) {M : MM} {G H : Hp} {s3 s4 s5 s6 s7 s8 s9 s10 : Option V} {R : VK} (w1 : Vw ((b, BagO (n + 5)) :: M) G H)
    (k : ∀ cs G' H', cs.length ≤ 4 → (cs.length : Int) < q → (∀ c ∈ cs, ltr c) → Ex G G' → Vw ((b, BagO n) :: M) G' H' → R (.str (S cs)) H') :
    tM1 (rJoin K) (tC (V.str "")) (tLc (iRng1 (tCons (tCall spDraw [] E0 (tCons (tVar 0) (tCons (tC (V.int q)) tNil))) tNil)) (gName 10) tYes (tOp (rIx K) (tVar 2) (tCall spDraw [] E0 (tCons (tVar 0) (tCons (tC (V.int 26)) tNil)))) [10])
      [some (.ref b), some m, some (.str "abcdefghijklmnopqrstuvwxyz"), s3, s4, s5, s6, s7, s8, s9, s10] H R := by
  walk_at "g"
  refine ⟨⟨_, rfl⟩, ?_⟩
  walk_at "g"
  refine ⟨b, n + 4, q, M, G, rfl, w1, hq.1, Nat.lt_of_lt_of_le (m := 100) (by omega) (by decide), fun r H2 r0 r1 w2 => ?_⟩
  obtain ⟨t, rfl⟩ : ∃ t : Nat, r = (t : Int) := ⟨r.toNat, by omega⟩
  refine ⟨_, rfl, by omega, by omega, ?_⟩
  refine lc_bag (lo := 0) (n := t) (N := n + 4) (k := 1) w2 (by omega) (by omega) (fun _ _ v => ∃ c, ltr c ∧ v = .str (S [c])) (fun _ _ _ _ _ h => h) (by intro _; rfl) ?_ ?_
  · intro i G1 H1 D acc R1 hi e1 hacc w3 k1
    walk_at "g"
    refine ⟨b, n + 4 - 1 * i - 1, 26, _, G1, rfl, w3.imp fun o ho => ho.mono (by omega), by decide, by decide, fun r H2 r0 r1 w4 => ?_⟩
    refine g_ixS (c := 97 + r.toNat) (by decide) (atI_of r0 (letters_at (by omega))) ?_
    exact k1 _ G1 H2 (Ex.refl _) ⟨97 + r.toNat, ⟨by omega, by omega⟩, rfl⟩ (w4.imp fun o ho => ho.mono (by omega))
  · intro D xs G1 H1 hl hx e1 gD hD w3
    obtain ⟨cs, rfl, hc⟩ := list_of (p := ltr) (f := fun c => V.str (S [c])) fun v hv => by
      obtain ⟨i, hi⟩ := List.mem_iff_getElem?.mp hv
      exact hx i v hi
    rw [List.length_map] at hl
    refine ⟨_, D, cs.map fun c => S [c], rfl, rfl, Or.inl ?_, ?_, ?_⟩
    · rw [List.map_map]
      exact SqL.of (w3.ex _ _ hD)
    · rw [sum_one, List.length_map]
      show cs.length + cs.length * 0 ≤ 16777216
      omega
    · rw [join_one]
      exact k cs G1 H1 (by omega) (by omega) hc e1 (w3.imp fun o ho => ho.mono (by omega))
def fnd (l r : List Nat) (f s : Int) (k : Nat) : List Nat := l ++ [97 + ((f + k * s) % 26).toNat] ++ r
def upL : List Nat := [117, 112]
def uppL : List Nat := [117, 112, 112]
def fin1 (x : List Nat) : List Nat := if x = upL then uppL else x
theorem up_S : ("up" : Str) = S upL := by decide +kernel
theorem upp_S : ("upp" : Str) = S uppL := by decide +kernel
theorem S_length (l : List Nat) : (S l).length = l.length := S_len l
theorem fnd_inj {l r : List Nat} {f : Int} {q : Nat} (hq : q < 6) (f0 : 0 ≤ f) {j k : Nat} (hj : j < 13) (hk : k < 13) (e : fnd l r f (1 + 2 * q) j = fnd l r f (1 + 2 * q) k) : j = k := by
  unfold fnd at e
  rw [List.append_assoc, List.append_assoc] at e
  have e2 := List.append_cancel_left e
  have e3 : 97 + ((f + j * (1 + 2 * q)) % 26).toNat = 97 + ((f + k * (1 + 2 * q)) % 26).toNat := by
    have := congrArg (fun z => z.head?) e2
    simpa using this
  have m1 : (0 : Int) ≤ (f + j * (1 + 2 * q)) % 26 := Int.emod_nonneg _ (by decide)
  have m2 : (0 : Int) ≤ (f + k * (1 + 2 * q)) % 26 := Int.emod_nonneg _ (by decide)
  have e4 : (f + j * (1 + 2 * q)) % 26 = (f + k * (1 + 2 * q)) % 26 := by omega
  obtain rfl | rfl | rfl | rfl | rfl | rfl : q = 0 ∨ q = 1 ∨ q = 2 ∨ q = 3 ∨ q = 4 ∨ q = 5 := by omega
  all_goals omega
theorem words_ok {l r : List Nat} {f : Int} {q m : Nat} (hq : q < 6) (f0 : 0 ≤ f) (hm : m ≤ 13) (ll : l.length ≤ 3) (lr : r.length ≤ 3) (hl : ∀ c ∈ l, ltr c) (hr : ∀ c ∈ r, ltr c) :
    WordsOk m ((List.range m).map fun k => S (fin1 (fnd l r f (1 + 2 * q) k))) := by
  have flen : ∀ k, (fnd l r f (1 + 2 * q) k).length = l.length + 1 + r.length := fun k => by
    unfold fnd
    simp only [List.length_append, List.length_cons, List.length_nil]
  have fl : ∀ k, ∀ c ∈ fnd l r f (1 + 2 * q) k, ltr c := fun k c hc => by
    unfold fnd at hc
    rcases List.mem_append.mp hc with hc | hc
    · rcases List.mem_append.mp hc with hc | hc
      · exact hl c hc
      · simp at hc
        have m1 : (0 : Int) ≤ (f + k * (1 + 2 * q)) % 26 := Int.emod_nonneg _ (by decide)
        have m2 : (f + k * (1 + 2 * q)) % 26 < 26 := Int.emod_lt_of_pos _ (by decide)
        exact ⟨by omega, by omega⟩
    · exact hr c hc
  refine ⟨by simp, fun x hx => ?_, fun x hx => ?_, ?_⟩
  · obtain ⟨k, hk, rfl⟩ := List.mem_map.mp hx
    unfold fin1
    split
    · decide +kernel
    · refine nmS_of ?_ ?_ fun c hc => fl k c ?_
      · rw [S_length, flen]; omega
      · rw [S_length, flen]; omega
      · simpa [S] using hc
  · obtain ⟨k, hk, rfl⟩ := List.mem_map.mp hx
    rw [up_S]
    intro e
    have e := S_inj e
    unfold fin1 at e
    split at e
    · exact absurd e (by decide)
    · exact absurd e ‹_›
  · show List.Pairwise (· ≠ ·) _
    rw [List.pairwise_map]
    refine List.Pairwise.imp_of_mem (fun {i j} hi hj hne => ?_) (List.nodup_range (n := m))
    have hi := List.mem_range.mp hi
    have hj := List.mem_range.mp hj
    intro e
    have e : fin1 (fnd l r f (1 + 2 * q) i) = fin1 (fnd l r f (1 + 2 * q) j) := S_inj e
    have ne : fnd l r f (1 + 2 * q) i ≠ fnd l r f (1 + 2 * q) j := fun z => absurd (fnd_inj hq f0 (by omega) (by omega) z) (by omega)
    unfold fin1 at e
    by_cases h1 : fnd l r f (1 + 2 * q) i = upL
    · by_cases h2 : fnd l r f (1 + 2 * q) j = upL
      · exact ne (h1.trans h2.symm)
      · rw [if_pos h1, if_neg h2] at e
        have a := flen i
        have b := flen j
        rw [h1] at a
        rw [← e] at b
        have a' : 2 = l.length + 1 + r.length := a
        have b' : 3 = l.length + 1 + r.length := b
        omega
    · by_cases h2 : fnd l r f (1 + 2 * q) j = upL
      · rw [if_neg h1, if_pos h2] at e
        have a := flen i
        have b := flen j
        rw [h2] at b
        rw [e] at a
        have a' : 3 = l.length + 1 + r.length := a
        have b' : 2 = l.length + 1 + r.length := b
        omega
      · rw [if_neg h1, if_neg h2] at e
        exact ne e
theorem p_law_some_words' (vs : List V) (H : Hp) (Q : VK) (E : XK) (h : spWords vs H Q E) : t_law_some_words P w K { nx := fun _ H' => Q .non H', rt := Q } (L2.start N_law_some_words vs) H := by
  obtain ⟨b, n, m, M, G, rfl, hm, w1, k⟩ := h
  change t_law_some_words P w K _ [some (.ref b), some (.int m), none, none, none, none, none, none, none, none, none] H
  unfold t_law_some_words
  walk_at "g"
  unfold t_law_some_words_1
  walk_at "g1"
  walk_at "g1"
  refine words_join (n := n + 7) (q := 4) ⟨by decide, by decide⟩ w1 fun l G1 H1 _ ll hl e1 w2 => ?_
  walk_at "g"
  unfold t_law_some_words_2
  walk_at "g1"
  walk_at "g1"
  refine words_join (n := n + 2) (q := 4) ⟨by decide, by decide⟩ w2 fun r G2 H2 _ lr hr e2 w3 => ?_
  walk_at "g"
  unfold t_law_some_words_3
  walk_at "g"
  refine ⟨b, n + 1, 26, M, G2, rfl, w3, by decide, by decide, fun f H3 f0 f1 w4 => ?_⟩
  walk_at "g"
  refine ⟨b, n, 6, M, G2, rfl, w4, by decide, by decide, fun q H4 q0 q1 w5 => ?_⟩
  obtain ⟨q, rfl⟩ : ∃ t : Nat, q = (t : Int) := ⟨q.toNat, by omega⟩
  refine g_mulL ⟨by decide, by decide⟩ ?_
  walk_at "g"
  refine al_T w5 (Nat.le_of_ble_eq_true rfl) (fun p G3 H5 e3 gp hp w6 => ?_)
  walk_at "g"
  refine ⟨p, _, rfl, SqT.of (w6.ex _ _ hp), rfl, ?_⟩
  walk_at "g"
  unfold t_law_some_words_4
  walk_at "g"
  refine ⟨_, rfl, by omega, by omega, ?_⟩
  refine lc_rng (lo := 0) (n := m) w6 (by omega) (fun i _ v => v = .str (S (fnd l r f (1 + 2 * q) i))) (fun _ _ _ _ _ h => h) (by intro _; rfl) ?_ ?_
  · intro i G4 H6 D acc R hi e4 hacc w7 k1
    have m1 : (0 : Int) ≤ (f + i * (1 + 2 * q)) % 26 := Int.emod_nonneg _ (by decide)
    have m2 : (f + i * (1 + 2 * q)) % 26 < 26 := Int.emod_lt_of_pos _ (by decide)
    walk_at "g"
    refine g_mulL ⟨by omega, by omega⟩ ?_
    walk_at "g"
    refine g_modI (by decide) ?_
    rw [show (0 : Int) + (i : Int) = i by omega]
    refine g_ixS (c := 97 + ((f + i * (1 + 2 * q)) % 26).toNat) (by decide) (atI_of m1 (letters_at (by omega))) ?_
    refine g_addS (by rw [S_length]; show _ ≤ 16777216; have : (Str.length ⟨#[97 + ((f + i * (1 + 2 * q)) % 26).toNat]⟩) = 1 := rfl; omega) ?_
    walk_at "g"
    have e5 : S l ++ (⟨#[97 + ((f + i * (1 + 2 * q)) % 26).toNat]⟩ : Str) = S (l ++ [97 + ((f + i * (1 + 2 * q)) % 26).toNat]) := S_cat l [97 + ((f + i * (1 + 2 * q)) % 26).toNat]
    rw [e5]
    refine g_addS (by rw [S_length, S_length]; show _ ≤ 16777216; simp only [List.length_append, List.length_cons, List.length_nil]; omega) ?_
    rw [S_cat]
    exact k1 _ G4 H6 (Ex.refl _) rfl w7
  · intro D xs G4 H6 hl4 hx e4 gD hD w7
    have ex : xs = ((List.range m).map fun i => S (fnd l r f (1 + 2 * q) i)).map V.str := by
      refine List.ext_getElem? fun i => ?_
      rw [List.getElem?_map, List.getElem?_map]
      by_cases hi : i < m
      · rw [List.getElem?_range hi]
        have hi' : i < xs.length := by omega
        rw [List.getElem?_eq_getElem hi', hx i _ (List.getElem?_eq_getElem hi')]
        rfl
      · rw [List.getElem?_eq_none (by omega), List.getElem?_eq_none (by rw [List.length_range]; omega)]
        rfl
    walk_at "g"
    unfold t_law_some_words_5
    walk_at "g"
    refine ⟨D, rfl, ⟨_, SqL.of (w7.ex _ _ hD)⟩, ?_⟩
    refine lc_lst w7 (SqL.of hD) (by omega) (fun i _ v => v = .str (S (fin1 (fnd l r f (1 + 2 * q) i)))) (fun _ _ _ _ _ h => h) (by intro _; rfl) ?_ ?_
    · intro i y G5 H7 D2 acc R hi e5 hacc w8 k1
      have ey := hx i y hi
      subst ey
      walk_at "g"
      refine g_neS rfl ?_
      walk_at "g"
      rw [up_S]
      refine b_n (fun h => ?_) (fun h => ?_)
      · walk_at "g"
        refine k1 _ G5 H7 (Ex.refl _) ?_ w8
        unfold fin1
        rw [if_neg fun z => h (by rw [z])]
      · walk_at "g"
        refine k1 _ G5 H7 (Ex.refl _) ?_ w8
        unfold fin1
        rw [if_pos (S_inj (V.str.inj h)), upp_S]
    · intro D2 ys G5 H7 hl5 hy e5 gD2 hD2 w8
      have ey : ys = ((List.range m).map fun i => S (fin1 (fnd l r f (1 + 2 * q) i))).map V.str := by
        refine List.ext_getElem? fun i => ?_
        rw [List.getElem?_map, List.getElem?_map]
        by_cases hi : i < m
        · rw [List.getElem?_range hi]
          have hi' : i < ys.length := by omega
          rw [List.getElem?_eq_getElem hi', hy i _ (List.getElem?_eq_getElem hi')]
          rfl
        · rw [List.getElem?_eq_none (by omega), List.getElem?_eq_none (by rw [List.length_range]; omega)]
          rfl
      rw [ey] at hD2
      have ee : Ex G G4 := ((e1.trans e2).trans e3).trans e4
      exact k D2 _ G5 H7 (words_ok (by omega) f0 hm (by omega) (by omega) hl hr) (ee.trans e5) (fresh_back ee gD2) hD2 w8
end
end E

namespace E
open PySem L2 Evl SX StX
local macro_rules | `(tactic| walk_at "g1") => `(tactic| first
  | with_reducible refine g_seq ?_
  | with_reducible refine g_asg ?_
  | with_reducible refine g_name ?_
  | with_reducible refine g_c ?_
  | with_reducible refine g_op ?_
  | with_reducible refine g_cons ?_
  | with_reducible refine g_nil ?_
  | with_reducible refine g_cb ?_
  | with_reducible refine g_ret ?_
  | with_reducible refine g_ifS ?_
  | with_reducible refine g_test ?_
  | with_reducible refine g_isB ?_
  | with_reducible refine g_I0 ?_
  | with_reducible refine g_subI ?_
  | with_reducible refine g_ltI ?_
  | with_reducible refine g_leI ?_
  | with_reducible refine g_gtI ?_
  | with_reducible refine g_geI ?_
  | with_reducible refine g_negI ?_
  | with_reducible refine g_isN ?_
  | with_reducible refine g_notN ?_
  | with_reducible refine g_call ?_
  | with_reducible refine g_tup ?_
  | with_reducible refine g_lst ?_
  | with_reducible refine g_sub ?_
  | with_reducible refine g_par ?_
  | with_reducible refine g_m1 ?_
  | with_reducible refine g_yes ?_
  | with_reducible refine g_lc ?_
  | with_reducible refine g_iRng1 ?_
  | with_reducible refine g_iList ?_
  | with_reducible refine g_iTup ?_
  | with_reducible refine g_iStr ?_
  | with_reducible refine g_part ?_
  | with_reducible refine g_gTup ?_
  | with_reducible refine g_gCons ?_
  | with_reducible refine g_gNil ?_
  | with_reducible refine g_tru ?_
  | with_reducible refine g_sl ?_
  | with_reducible refine g_noPart ?_
  | with_reducible refine g_int ?_
  | with_reducible refine g_addI ?_
  | with_reducible refine g_next ?_
  | with_reducible refine g_drop ?_
  | with_reducible refine g_and ?_
  | with_reducible refine g_or ?_
  | with_reducible refine g_not ?_
  | with_reducible refine g_tB ?_
  | with_reducible refine g_andV ?_
  | with_reducible refine g_orV ?_
  | with_reducible refine g_notV ?_
  | with_reducible refine g_if ?_
  | with_reducible refine g_un ?_
  | with_reducible refine g_U ?_
  | with_reducible refine g_chain ?_
  | with_reducible refine g_retN ?_
  | with_reducible refine g_abs ?_
  | with_reducible refine g_min ?_
  | with_reducible refine g_max ?_
  | with_reducible refine iteT ?_
  | with_reducible refine iteF ?_
  | ((with_reducible show tVar _ _ _ _); refine g_var rfl ?_))
local macro_rules | `(tactic| walk_at "g") => `(tactic| repeat (walk_at "g1"))
local macro_rules | `(tactic| walk_at "hp") => `(tactic| repeat (first
  | assumption
  | refine SqL.of ?_
  | refine SqT.of ?_
  | refine Vw.ex (by assumption) _ _ ?_
  | refine (by assumption : Evl.Ex _ _) _ _ ?_))
local macro_rules | `(tactic| walk_at "b") => `(tactic| first
  | with_reducible refine iteT ?_
  | with_reducible refine iteF ?_
  | with_reducible refine b_d (fun h => ?_) (fun h => ?_)
  | with_reducible refine b_n (fun h => ?_) (fun h => ?_)
  | with_reducible refine b_nb (fun h => ?_) (fun h => ?_)
  | with_reducible refine b_b (fun h => ?_) (fun h => ?_))
local macro_rules | `(tactic| walk_at "al") => `(tactic| first
  | with_reducible refine al_T (by assumption) (Nat.le_of_ble_eq_true (by with_unfolding_all rfl)) (fun p G' H' e gp hp w' => ?_)
  | with_reducible refine al_L (by assumption) (Nat.le_of_ble_eq_true (by with_unfolding_all rfl)) (fun p G' H' e gp hp w' => ?_))
local macro_rules | `(tactic| walk_at "ga") => `(tactic| repeat (first | walk_at "g1" | walk_at "al"))
section
variable {P : Program} {w : World} {K : PySem.W.Frag}
theorem pow10_19 : (10 : Int) ^ (19 : Int).toNat = 10000000000000000000 := by decide +kernel
theorem p_law_odd_one' (vs : List V) (H : Hp) (Q : VK) (E : XK) (h : spOdd K vs H Q E) : t_law_odd_one P w K { nx := fun _ H' => Q .non H', rt := Q } (L2.start N_law_odd_one vs) H := by
  obtain ⟨b, n, j, M, G, rfl, j0, j1, w1, k⟩ := h
  change t_law_odd_one P w K _ [some (.ref b), some (.int j), none] H
  unfold t_law_odd_one
  walk_at "g"
  refine al_L w1 (Nat.le_of_ble_eq_true rfl) fun p1 G1 H1 e1 g1 h1 w2 => ?_
  walk_at "g"
  unfold t_law_odd_one_1
  walk_at "g"
  refine al_T w2 (Nat.le_of_ble_eq_true rfl) fun p2 G2 H2 e2 g2 h2 w3 => ?_
  walk_at "g"
  refine al_L w3 (Nat.le_of_ble_eq_true rfl) fun p3 G3 H3 e3 g3 h3 w4 => ?_
  walk_at "g"
  refine al_L w4 (Nat.le_of_ble_eq_true rfl) fun p4 G4 H4 e4 g4 h4 w5 => ?_
  walk_at "g"
  refine al_T w5 (Nat.le_of_ble_eq_true rfl) fun p5 G5 H5 e5 g5 h5 w6 => ?_
  walk_at "g"
  refine al_L w6 (Nat.le_of_ble_eq_true rfl) fun p6 G6 H6 e6 g6 h6 w7 => ?_
  walk_at "g"
  refine al_L w7 (Nat.le_of_ble_eq_true rfl) fun p7 G7 H7 e7 g7 h7 w8 => ?_
  walk_at "g"
  refine g_powI ⟨by decide, by decide, by decide⟩ ?_
  walk_at "g"
  refine al_L w8 (Nat.le_of_ble_eq_true rfl) fun p8 G8 H8 e8 g8 h8 w9 => ?_
  have hp1 : G8 p1 = some (.lst _) := e8 _ _ (e7 _ _ (e6 _ _ (e5 _ _ (e4 _ _ (e3 _ _ (e2 _ _ h1))))))
  refine g_addLw w9 hp1 h8 (Nat.le_of_ble_eq_true rfl) fun p9 G9 H9 e9 g9 h9 w10 => ?_
  walk_at "g"
  have eA : Ex G G9 := ((((((((e1.trans e2).trans e3).trans e4).trans e5).trans e6).trans e7).trans e8).trans e9)
  have q2 : G9 p2 = some _ := e9 _ _ (e8 _ _ (e7 _ _ (e6 _ _ (e5 _ _ (e4 _ _ (e3 _ _ h2))))))
  have q3 : G9 p3 = some _ := e9 _ _ (e8 _ _ (e7 _ _ (e6 _ _ (e5 _ _ (e4 _ _ h3)))))
  have q4 : G9 p4 = some _ := e9 _ _ (e8 _ _ (e7 _ _ (e6 _ _ (e5 _ _ h4))))
  have q5 : G9 p5 = some _ := e9 _ _ (e8 _ _ (e7 _ _ (e6 _ _ h5)))
  have q7 : G9 p7 = some _ := e9 _ _ (e8 _ _ h7)
  have all : ∀ v ∈ ([V.non, V.bl true, V.bl false, V.int 0, V.int 1, V.int (-7), V.str "", V.str "A", V.str "a b", V.str "a1", V.str "abcdefghi", V.str " a", V.str "a\n", V.str "(a)", V.str "aa-b"] ++ [V.ref p2, V.ref p3, V.ref p4, V.ref p5, V.ref p7, V.str "Ab", V.str "_", V.str "a.b", V.int (10 ^ (19 : Int).toNat)] : List V), DatV K G9 v ∧ isNm v = false := by
    intro v hv
    simp only [List.cons_append, List.nil_append, List.mem_cons, List.not_mem_nil, or_false] at hv
    rcases hv with rfl | rfl | rfl | rfl | rfl | rfl | rfl | rfl | rfl | rfl | rfl | rfl | rfl | rfl | rfl | rfl | rfl | rfl | rfl | rfl | rfl | rfl | rfl | rfl
    · exact ⟨Or.inl rfl, rfl⟩
    · exact ⟨Or.inr (Or.inl ⟨_, rfl⟩), rfl⟩
    · exact ⟨Or.inr (Or.inl ⟨_, rfl⟩), rfl⟩
    · exact ⟨Or.inr (Or.inr (Or.inl ⟨_, rfl⟩)), rfl⟩
    · exact ⟨Or.inr (Or.inr (Or.inl ⟨_, rfl⟩)), rfl⟩
    · exact ⟨Or.inr (Or.inr (Or.inl ⟨_, rfl⟩)), rfl⟩
    · exact ⟨.str (by decide +kernel), by decide +kernel⟩
    · exact ⟨.str (by decide +kernel), by decide +kernel⟩
    · exact ⟨.str (by decide +kernel), by decide +kernel⟩
    · exact ⟨.str (by decide +kernel), by decide +kernel⟩
    · exact ⟨.str (by decide +kernel), by decide +kernel⟩
    · exact ⟨.str (by decide +kernel), by decide +kernel⟩
    · exact ⟨.str (by decide +kernel), by decide +kernel⟩
    · exact ⟨.str (by decide +kernel), by decide +kernel⟩
    · exact ⟨.str (by decide +kernel), by decide +kernel⟩
    · exact ⟨Or.inr (Or.inr (Or.inr (Or.inr (Or.inr ⟨_, _, rfl, q2⟩)))), rfl⟩
    · exact ⟨Or.inr (Or.inr (Or.inr (Or.inr (Or.inl ⟨_, _, rfl, q3⟩)))), rfl⟩
    · exact ⟨Or.inr (Or.inr (Or.inr (Or.inr (Or.inl ⟨_, _, rfl, q4⟩)))), rfl⟩
    · exact ⟨Or.inr (Or.inr (Or.inr (Or.inr (Or.inr ⟨_, _, rfl, q5⟩)))), rfl⟩
    · exact ⟨Or.inr (Or.inr (Or.inr (Or.inr (Or.inl ⟨_, _, rfl, q7⟩)))), rfl⟩
    · exact ⟨.str (by decide +kernel), by decide +kernel⟩
    · exact ⟨.str (by decide +kernel), by decide +kernel⟩
    · exact ⟨.str (by decide +kernel), by decide +kernel⟩
    · exact ⟨Or.inr (Or.inr (Or.inl ⟨_, rfl⟩)), rfl⟩
  generalize he : ([V.non, V.bl true, V.bl false, V.int 0, V.int 1, V.int (-7), V.str "", V.str "A", V.str "a b", V.str "a1", V.str "abcdefghi", V.str " a", V.str "a\n", V.str "(a)", V.str "aa-b"] ++ [V.ref p2, V.ref p3, V.ref p4, V.ref p5, V.ref p7, V.str "Ab", V.str "_", V.str "a.b", V.int (10 ^ (19 : Int).toNat)] : List V) = L at all h9
  have hL : L.length = 24 := by rw [← he]; rfl
  unfold t_law_odd_one_2
  have hs9 : SqL K H9 p9 _ := SqL.of (w10.ex _ _ h9)
  walk_at "g"
  refine g_lenL hs9 ?_
  rw [hL]
  walk_at "g"
  refine ⟨b, n, 24, M, G9, rfl, w10, by decide, by decide, fun r H10 r0 r1 w11 => ?_⟩
  walk_at "g"
  refine g_lenL (SqL.of (w11.ex _ _ h9)) ?_
  rw [hL]
  refine g_modI (by decide) ?_
  rw [show ((24 : Nat) : Int) = 24 from rfl]
  have m0 : 0 ≤ (r + j) % 24 := Int.emod_nonneg _ (by decide)
  have m1 : (r + j) % 24 < 24 := Int.emod_lt_of_pos _ (by decide)
  have lt : ((r + j) % 24).toNat < L.length := by omega
  refine g_ixL (v := L[((r + j) % 24).toNat]) (SqL.of (w11.ex _ _ h9)) (atI_of m0 (List.getElem?_eq_getElem lt)) ?_
  obtain ⟨d1, d2⟩ := all _ (List.getElem_mem lt)
  exact k _ G9 H10 eA d1 d2 w11
end
end E

/-! Rules that HandS has not: calls with stars and keywords, defs with *args and keyword-only parameters, functions off a class, own ==, != and in -/
namespace PySem.W
open PySem PySem.Calls PyProof.Rows
section
variable {M : Model} {A : Around} {E : Value → Shared → Prop} {s : Shared} {K : Frag} {env : Env} {pos p : Pos} {f : Value} {first : List Value} {Q : Value → Shared → Prop}
theorem eq_callStar {P : Heap → Prop} {args : List (Bool × Sem Value)} {kws : List (Option Str × Sem Value)} (hst : (args.any (·.1) || kws.any (·.1.isNone)) = true)
    (hk : ∀ h, P h → ∃ k, (k = Keeper.frame ∨ k = Keeper.machine ∨ k = Keeper.boundFrame) ∧ Looks M h (keeperOf f) k)
    (h : wpAny M A (evalArgs f true args kws) (fun a s₁ => P s₁.heap ∧ wpAny M A (call f (first ++ a.pos) a.kw) Q E s₁) E s) : wpAny M A (callWith pos f first args kws) Q E s := by
  unfold callWith
  refine wpAny_bind (wpAny_holding (wpAny_mono h (fun a s₁ h₁ => wpAny_bind (wpAny_standAt ?_)) fun _ _ x => x))
  obtain ⟨k, hk', L⟩ := hk _ h₁.1
  simp only [hst]
  refine wpAny_bind (L.here ?_)
  have tail : ∀ {t : Sem Value}, wpAny M A t Q E s₁ → wpAny M A (t >>= fun r => holding [r] point >>= fun _ => pure r) Q E s₁ :=
    fun ht => wpAny_bind (wpAny_mono ht (fun r s₂ hr => wpAny_bind (wpAny_holding (wpAny_point (wpAny_pure hr)))) fun _ _ x => x)
  have marked (mk : Value) : wpAny M A (callMarked mk f (first ++ a.pos) a.kw) Q E s₁ := by unfold callMarked; exact Calls.wpAny_keep h₁.2
  rcases hk' with rfl | rfl | rfl <;> dsimp only <;> first | exact tail (marked _) | exact tail (wpAny_operating h₁.2)
/-- a call with any arguments and keywords that have names -/
theorem callWith_A {e : Expr} {rest : List Expr} {kws : List Keyword} (hk : keepIn K f = true) (hall : (backToKw pos (keywordEach kws env)).all (·.1.isSome) = true)
    (h : wpAny M A (spliced (backTo pos (starEach (e :: rest) env))) (fun vs s₁ => wpAny M A (evalAll ((backToKw pos (keywordEach kws env)).map (·.2)))
      (fun ks s₂ => K.In s₂.heap ∧ wpAny M A (call f (first ++ vs) (((backToKw pos (keywordEach kws env)).filterMap (·.1)).zip ks)) Q E s₂) E s₁) E s)
    (he : starEach (e :: rest) env = (false, eval e env) :: starEach rest env := by rfl) :
    wpAny M A (callWith pos f first (backTo pos (starEach (e :: rest) env)) (backToKw pos (keywordEach kws env))) Q E s := by
  have g : wpAny M A (evalArgs f true (backTo pos (starEach (e :: rest) env)) (backToKw pos (keywordEach kws env))) (fun a s₁ => K.In s₁.heap ∧ wpAny M A (call f (first ++ a.pos) a.kw) Q E s₁) E s := evalArgs_kw2 hall h he
  cases q : ((backTo pos (starEach (e :: rest) env)).any (·.1) || (backToKw pos (keywordEach kws env)).any (·.1.isNone)) with
  | false => exact callWith_of q (keeps_K hk) g
  | true => exact eq_callStar q (keeps_K hk) g
/-- .. the only argument a star -/
theorem eq_lone {x : Sem Value} {kws : List (Option Str × Sem Value)} {Q : Args → Shared → Prop} (hall : kws.all (·.1.isSome) = true)
    (h : wpAny M A x (fun v s₁ => wpAny M A (evalAll (kws.map (·.2))) (fun ks s₂ => StarOf M A E v (fun vs s₃ => Q ⟨vs, (kws.filterMap (·.1)).zip ks⟩ s₃) s₂) E s₁) E s) :
    wpAny M A (evalArgs f true [(true, (do let v ← x; standAt pos; pure v))] kws) Q E s := by
  unfold evalArgs
  first
    | refine wpAny_bind (wpAny_bind (wpAny_mono h (fun v s₁ h₁ => wpAny_bind (wpAny_standAt (wpAny_pure ?_))) fun _ _ x => x))
    | refine wpAny_bind (wpAny_bind (wpAny_bind (wpAny_mono h (fun v s₁ h₁ => wpAny_bind (wpAny_standAt (wpAny_pure (wpAny_pure ?_)))) fun _ _ x => x)))
  refine wpAny_holding ?_
  dsimp only
  rw [if_pos hall]
  refine wpAny_bind (wpAny_mono h₁ (fun ks s₂ h₂ => ?_) fun _ _ x => x)
  unfold StarOf at h₂
  refine wpAny_bind (wpAny_bind (wpAny_mono h₂ (fun b s₃ h₃ => ?_) fun _ _ x => x))
  obtain ⟨rfl, h₃⟩ := h₃
  have z := wpAny_holding (vs := (((kws.filterMap (·.1)).zip ks).map (·.2))) (wpAny_mono h₃ (fun vs s₃ h₃ => (wpAny_pure h₃ : wpAny M A (pure (⟨vs, (kws.filterMap (·.1)).zip ks⟩ : Args)) Q E s₃)) fun _ _ x => x)
  try simp only [Bool.false_eq_true, if_false]
  first
    | exact z
    | exact wpAny_bind (wpAny_pure z)
theorem callWith_A1 {e : Expr} {kws : List Keyword} (hk : keepIn K f = true) (hall : (backToKw pos (keywordEach kws env)).all (·.1.isSome) = true)
    (h : wpAny M A (eval e env) (fun v s₁ => wpAny M A (evalAll ((backToKw pos (keywordEach kws env)).map (·.2))) (fun ks s₂ => StarOf M A E v (fun vs s₃ => K.In s₃.heap ∧ wpAny M A (call f (first ++ vs) (((backToKw pos (keywordEach kws env)).filterMap (·.1)).zip ks)) Q E s₃) s₂) E s₁) E s)
    (he : starEach [.Starred e p] env = [(true, eval e env)] := by rfl) :
    wpAny M A (callWith pos f first (backTo pos (starEach [.Starred e p] env)) (backToKw pos (keywordEach kws env))) Q E s := by
  rw [he]
  exact eq_callStar rfl (keeps_K hk) (eq_lone hall h)
end
end PySem.W

namespace E
open PySem PySem.Spec PyProof.Rows L2 StX
/-- a def at f that may be called with any positional values and the keywords kn -/
def FnK (P : Program) (w : World) (K : PySem.W.Frag) (mg : Str → Option Value) (base : Heap) (CX : CXT) (k : Nat) (f : Addr) (kn : List Str) (sp : List V → List V → Hp → VK → XK → Prop) : Prop :=
  ∀ (A : Around) (outer : List Env) (s : Shared) (H : Hp) (us : List Value) (vs : List V) (ws : List Value) (zs : List V) (Q : VK) (E : XK), Room k A → Env0 P w K mg base A outer s H → Vals vs us → Vals zs ws → zs.length = kn.length → sp vs zs H Q E →
    codeAny (model P w) A (.call (.ref f) ⟨us, kn.zip ws⟩) (CR CX outer P w H s Q E) s
section
variable {CX : CXT} {P : Program} {w : World} {K : PySem.W.Frag} {mg : Str → Option Value} {base : Heap} {k j : Nat} {f : Addr} {kn : List Str}
theorem FnK.mono {sp : List V → List V → Hp → VK → XK → Prop} (F : FnK P w K mg base CX j f kn sp) (h : j ≤ k) : FnK P w K mg base CX k f kn sp := fun A outer s H us vs ws zs Q E hr => F A outer s H us vs ws zs Q E (hr.mono h)
theorem FnK.imp {sp sp' : List V → List V → Hp → VK → XK → Prop} (F : FnK P w K mg base CX k f kn sp) (h : ∀ vs zs H Q E, sp' vs zs H Q E → sp vs zs H Q E) : FnK P w K mg base CX k f kn sp' := fun A outer s H us vs ws zs Q E hr e0 r rz l q => F A outer s H us vs ws zs Q E hr e0 r rz l (h _ _ _ _ _ q)
end
section
variable {CX : CXT} {P : Program} {w : World} {K : PySem.W.Frag} {mg : Str → Option Value} {base : Heap} {k : Nat} {f : Addr} {name qual : Str} {params : Arguments} {body : List Stmt} {scope : Scope} {dvs : List V} {kws : List (Str × V)} {fd : FuncData}
  {N ps kn ms : List Str} {sp : Sp} {pv : Str}
/-- def f(a, .., *v, k = .., ..): kn the keywords that are written; the keyword-only parameters that lack have their defaults mz; g puts written and lacking ones into the parameters' order -/
theorem fnk_star (F : FunD K name qual params body scope [] kws f fd) {mn : List (Str × V)} (hms : ∀ q ∈ mn, q ∈ kws) {g : {α : Type} → List α → List α → List α} (hg : ∀ {zs mz : List V} {ws mv : List Value}, Vals zs ws → Vals mz mv → Vals (g zs mz) (g ws mv))
    (hgl : ∀ {zs mz : List V}, zs.length = kn.length → mz.length = mn.length → (g zs mz).length = ms.length)
    (S : FnScope N (ps ++ (ms ++ [pv])) scope) (hCX : CXUp CX)
    (hb : ∀ (D : Addr) (kV doc pm : Value) (an : Option Addr) (cdv ct : Value) (us rest ws mv : List Value), us.length = ps.length → ws.length = kn.length → mv.length = mn.length → (mn ≠ [] → kV = .ref D) →
      ∃ c, bindArgs (PySem.W.fnOf name qual params body scope .none kV doc pm an cdv ct) ⟨us ++ rest, kn.zip ws⟩ = (newTuple rest >>= c) ∧ ∀ t, KwChain D ((mn.map (·.1)).zip mv) (c t) (ps.zip us ++ (ms.zip (g ws mv) ++ [(pv, t)])))
    (hbody : ∀ (cdv : Value) (A : Around) (outer : List Env) (s : Shared) (H : Hp) (vs : List V) (Q : VK) (E : XK), Room k (A.deeper (envOfC qual scope s.heap.objs.size f cdv)) → sp vs H Q E →
      ∃ t, PSs (cxOf CX P w K mg base N qual scope f cdv A outer s H E) body t ∧ t { nx := fun _ H' => Q .non H', rt := Q } (start N vs) H) :
    FnK P w K mg base CX (k + 1) f kn (fun vs zs H Q E => ∃ ws rest, vs = ws ++ rest ∧ ws.length = ps.length ∧ rest.length ≤ sizeLine ∧ ∀ p, H p = Option.none → sp (ws ++ (g zs (mn.map (·.2)) ++ [V.ref p])) (upd H p (.tup rest)) Q E) := by
  intro A outer s H us vs ks zs Q E hr e0 r rz lz hsp
  obtain ⟨ws, rest, ev, hl, hz, hq⟩ := hsp
  subst ev
  obtain ⟨oc, od, dV, kV, doc, pm, an, cdv, ct, osl, rfl, lk, hcd, hD, hK⟩ := F.ex
  rcases hD with ⟨_, rfl⟩ | ⟨e, _⟩
  case inr => exact absurd rfl e
  obtain ⟨u1, u2, eu, r1, r2⟩ := vals_split r
  subst eu
  have hn : H s.heap.objs.size = Option.none := e0.hok.fresh (Nat.le_refl _)
  have hl1 : u1.length = ps.length := by rw [← r1.length]; exact hl
  have hl2 : u2.length ≤ sizeLine := by rw [← r2.length]; exact hz
  obtain ⟨D, mv, hmv, rmv, hkD, hks⟩ : ∃ (D : Addr) (mv : List Value), mv.length = mn.length ∧ Vals (mn.map (·.2)) mv ∧ (mn ≠ [] → kV = .ref D) ∧ ∀ q ∈ (mn.map (·.1)).zip mv, PySem.W.nsIn K D q.1 = some (some q.2) := by
    by_cases hm : mn = []
    · subst hm
      exact ⟨0, [], rfl, .nil, fun z => absurd rfl z, fun q hq => by simp at hq⟩
    · rcases hK with e | ⟨D, e, hq⟩
      · subst e
        cases hmn : mn with
        | nil => exact absurd hmn hm
        | cons q l => exact absurd (hms q (by rw [hmn]; exact List.mem_cons_self)) (by simp)
      · obtain ⟨mv, a, b, c⟩ := kwd_vals (ms := mn) fun q hm => hq q (hms q hm)
        exact ⟨D, mv, a, b, fun _ => e, c⟩
  obtain ⟨c, e1, e2⟩ := hb D kV doc pm an cdv ct u1 u2 ks mv hl1 (by rw [← rz.length, lz]) hmv hkD
  refine run_bnd lk hcd S hr e0 (G := fun xs H2 => ∃ p, H p = Option.none ∧ xs = ws ++ (g zs (mn.map (·.2)) ++ [V.ref p]) ∧ H2 = upd H p (.tup rest)) (fun A' Ex Q' h => ?_) fun s2 H2 xs ⟨p, hp, ex, eH⟩ hr' => ?_
  · rw [e1]
    refine wpAny_bind (wpAny_newTuple ?_ hl2)
    have new : ObjOk P w (upd H s.heap.objs.size (.tup rest)) (s.heap.push ({ cls := .type "tuple", data := .seq u2.toArray } : Obj)) s.heap.objs.size (.tup rest) := ⟨hz, u2, r2, ⟨_, Heap.get?_push_size _ rfl, rfl, _, rfl⟩⟩
    have un := un_laid (fs := frs outer) (s := s) (o := ({ cls := .type "tuple", data := .seq u2.toArray } : Obj)) (u := .tup rest) hn
    have e0' := env0_laid e0 new
    have KX : K.In (s.heap.push ({ cls := .type "tuple", data := .seq u2.toArray } : Obj)) := e0'.mod.kin.keeps fun b o e => (e0'.bs b o e).1
    refine (KwChain.looks (M := model P w) KX hks (e2 (Value.ref s.heap.objs.size))).here ?_
    have z := h _ _ (ws ++ (g zs (mn.map (·.2)) ++ [V.ref s.heap.objs.size])) (u1 ++ (g ks mv ++ [Value.ref s.heap.objs.size])) e0' un rfl (fun e s' => hCX outer s H _ _ E e s' un (fun b o q => Heap.get?_push_of_some _ q) rfl) (r1.append ((hg rz rmv).append (.cons rfl .nil)))
      (by rw [List.length_append, List.length_append, hl, List.length_append, List.length_append, hgl lz (by simp), List.length_singleton, List.length_singleton]) ⟨_, hn, rfl, rfl⟩
    have lg : ms.length = (g ks mv).length := by rw [← (hg rz rmv).length, hgl lz (by simp)]
    rw [List.zip_append hl1.symm, List.zip_append lg] at z
    exact z
  · subst ex eH
    exact hbody cdv A outer s2 _ _ Q E hr' (hq p hp)
end
/-! ### making instances -/
def tMakeA (C : Addr) (m : Nat) (sp : List V → List V → Hp → VK → XK → Prop) (Er : XK) (t tk : TA) : TE := fun σ H Q => t σ H fun vs H1 => tk σ H1 fun zs H2 => zs.length = m ∧ ∀ x dx, H2 x = none → H2 dx = none → dx ≠ x →
  sp (.ref x :: vs) zs (upd (upd H2 dx (.own x)) x (.ins C dx [])) (fun v H3 => v = .non ∧ Q (.ref x) H3) Er
/-- C(*y, k = v): y is asked ahead of the keywords, walked behind them -/
def tMakeS (K : PySem.W.Frag) (C : Addr) (m : Nat) (sp : List V → List V → Hp → VK → XK → Prop) (Er : XK) (te : TE) (tk : TA) : TE := fun σ H Q => te σ H fun y H1 => tk σ H1 fun zs H2 => ∃ p vs, y = V.ref p ∧ (SqT K H2 p vs ∨ SqL K H2 p vs) ∧ zs.length = m ∧ ∀ x dx, H2 x = none → H2 dx = none → dx ≠ x →
  sp (.ref x :: vs) zs (upd (upd H2 dx (.own x)) x (.ins C dx [])) (fun v H3 => v = .non ∧ Q (.ref x) H3) Er
section
variable {X : Cx} {CX : CXT} {k : Nat} {f C : Addr} {kn : List Str} {sp : List V → List V → Hp → VK → XK → Prop} {Er : XK} {x : Str} {p q pos : Pos} {e : Expr} {es : List Expr} {kws : List Keyword} {te : TE} {t tk : TA}
theorem run_makeA {pins : List (Addr × Obj)} {σ : L2.St} {H : Hp} {s : Shared} {Q : VK} {us ws : List Value} {vs zs : List V} (M : Mk X.K C f) (F : FnK X.prog X.w X.K X.mg X.base CX k f kn sp) (hr : Room (k + 1) X.A) (hx : Passes CX X Er)
    (I : Inv X pins σ H s) (r : Vals vs us) (rz : Vals zs ws) (l2 : zs.length = kn.length)
    (h : ∀ x dx, H x = none → H dx = none → dx ≠ x → sp (.ref x :: vs) zs (upd (upd H dx (.own x)) x (.ins C dx [])) (fun v H2 => v = .non ∧ Q (.ref x) H2) Er) :
    wpAny (model X.prog X.w) X.A (call (.ref C) us (kn.zip ws)) (EP X pins σ Q) X.xe s := by
  have hq := h (s.heap.objs.size + 1) s.heap.objs.size (I.hok.fresh (Nat.le_succ _)) (I.hok.fresh (Nat.le_refl _)) (Nat.ne_of_lt (Nat.lt_succ_self _))
  have I2 := Inv.made (C := C) I
  have r1 : Vals (V.ref (s.heap.objs.size + 1) :: vs) (Value.ref (s.heap.objs.size + 1) :: us) := .cons rfl r
  refine wpAny_call (make_map (f := f) I.kIn M.makes M.init (beq_iff_eq.mp M.fn) (codeAny_mono (F _ X.stack _ _ (Value.ref (s.heap.objs.size + 1) :: us) _ ws zs _ Er (hr.make C us (kn.zip ws)) (I2.env0.make C us (kn.zip ws)) r1 rz l2 hq) fun r s' hq' => ?_))
  cases r with
  | error e => exact hx pins σ _ _ e s' I2 hq'
  | ok fl =>
    cases fl with
    | ret u =>
      obtain ⟨v, H', I3, rv, ev, q3⟩ := I2.after hq'
      subst ev
      exact ⟨rv, ⟨V.ref (s.heap.objs.size + 1), H', I3, rfl, q3⟩⟩
    | next => exact False.elim hq'
    | brk => exact False.elim hq'
    | cont => exact False.elim hq'
theorem pe_makeA (M : Mk X.K C f) (F : FnK X.prog X.w X.K X.mg X.base CX k f kn sp) (hr : Room (k + 1) X.A) (hg : Gl X x) (hm : X.mg x = some (.ref C)) (hx : Passes CX X Er) (ha : PA X (e :: es) t) (hkw : PK X kws tk)
    (hall : (backToKw pos (keywordEach kws X.env)).all (·.1.isSome) = true := by rfl) (hks : (backToKw pos (keywordEach kws X.env)).filterMap (·.1) = kn := by rfl) (hdb : (x == ("__debug__" : Str)) = false := by decide)
    (he : starEach (e :: es) X.env = (false, eval e X.env) :: starEach es X.env := by rfl) : PE X (.Call (.Name x p) (e :: es) kws pos) (tMakeA C kn.length sp Er t tk) := by
  refine ⟨fun pins s σ H Q I h => ?_⟩
  refine wpAny_Call_Name_kw (ld_glob I hg hm ?_ hdb)
  refine PySem.W.callWith_A (K := X.K) M.kp hall (thn (ha.run pos pins s σ H _ I h) fun us s1 ⟨vs, H1, I1, r, q⟩ => ?_) he
  refine thn (hkw.run pos pins s1 σ H1 _ I1 q) fun ws s2 ⟨zs, H2, I2, rz, l2, q2⟩ => ⟨I2.kIn, ?_⟩
  rw [hks]
  exact run_makeA M F hr hx I2 r rz l2 q2
theorem pe_makeS (M : Mk X.K C f) (F : FnK X.prog X.w X.K X.mg X.base CX k f kn sp) (hr : Room (k + 1) X.A) (hg : Gl X x) (hm : X.mg x = some (.ref C)) (hx : Passes CX X Er) (ha : PE X e te) (hkw : PK X kws tk)
    (hall : (backToKw pos (keywordEach kws X.env)).all (·.1.isSome) = true := by rfl) (hks : (backToKw pos (keywordEach kws X.env)).filterMap (·.1) = kn := by rfl) (hdb : (x == ("__debug__" : Str)) = false := by decide)
    (he : starEach [.Starred e q] X.env = [(true, eval e X.env)] := by rfl) : PE X (.Call (.Name x p) [.Starred e q] kws pos) (tMakeS X.K C kn.length sp Er te tk) := by
  refine ⟨fun pins s σ H Q I h => ?_⟩
  refine wpAny_Call_Name_kw (ld_glob I hg hm ?_ hdb)
  refine PySem.W.callWith_A1 (K := X.K) M.kp hall (thn (ha.run pins s σ H _ I h) fun v s1 ⟨y, H1, I1, ry, q⟩ => ?_) he
  refine thn (hkw.run pos pins s1 σ H1 _ I1 q) fun ws s2 ⟨zs, H2, I2, rz, p0, vs, ey, hx0, l2, q2⟩ => ?_
  subst ey
  obtain rfl : v = Value.ref p0 := ry
  refine star_any I2 hx0 fun us s3 I3 rv => ⟨I3.kIn, ?_⟩
  rw [hks]
  exact run_makeA M F hr hx I3 rv rz l2 q2
end
/-! ### a function off a class: C.f(..), by a staticmethod or plain -/
structure Stat (K : PySem.W.Frag) (C : Addr) (mc : Value) (m : Str) (g : Addr) : Prop where
  rd : PySem.W.readsIn K C mc = true
  ga : PySem.W.specialIn K (.ref C) "__getattribute__" = some (some (.builtin "type.__getattribute__"))
  at_ : (∃ p, PySem.W.findCls K (.ref C) mc m = some (.get (.builtin "staticmethod.__get__") (.ref p) .none (.ref C)) ∧ ∃ rest, PySem.W.recIn K p "staticmethod" = some (.ref g :: rest)) ∨ PySem.W.findCls K (.ref C) mc m = some (.val (.ref g))
  kp : PySem.W.keepIn K (.ref g) = true
def tStat (C : Addr) (m : Nat) (sp : List V → List V → Hp → VK → XK → Prop) (Er : XK) (ta : TE) (t tk : TA) : TE := fun σ H Q => ta σ H fun x H1 => x = .ref C ∧ t σ H1 fun vs H2 => tk σ H2 fun zs H3 => zs.length = m ∧ sp vs zs H3 Q Er
section
variable {X : Cx} {CX : CXT} {k : Nat} {C g : Addr} {mc : Value} {kn : List Str} {sp : List V → List V → Hp → VK → XK → Prop} {Er : XK} {m : Str} {p q pos apos : Pos} {e o : Expr} {es : List Expr} {kws : List Keyword} {ta : TE} {t tk : TA} {pl : Sem Bool}
theorem getmeth_stat {pins : List (Addr × Obj)} {σ : L2.St} {H : Hp} {s : Shared} {A : Around} {Er : Value → Shared → Prop} {Q : Value × List Value → Shared → Prop} (I : Inv X pins σ H s) (c : Stat X.K C mc m g)
    (h : ∀ s', Inv X pins σ H s' → Q (.ref g, []) s') : wpAny (model X.prog X.w) A (getMethod (.ref C) m pl) Q Er s := by
  refine PySem.W.method_cls I.kIn c.ga ?_
  rcases c.at_ with ⟨p, a, rest, hp⟩ | a
  · refine PySem.W.cls_bind I.kIn c.rd a ?_
    refine wpAny_call (PySem.W.sm_get (s := { s with toks := s.toks + 1 }) I.kIn hp (PySem.W.handed_on rfl ?_))
    exact h _ (I.tok _)
  · exact PySem.W.cls_value I.kIn c.rd a rfl (h _ (I.tok _))
theorem run_fnK {pins : List (Addr × Obj)} {σ : L2.St} {H : Hp} {s : Shared} {Q : VK} {us ws : List Value} {vs zs : List V} (F : FnK X.prog X.w X.K X.mg X.base CX k g kn sp) (hr : Room k X.A) (hx : Passes CX X Er) (I : Inv X pins σ H s) (r : Vals vs us) (rz : Vals zs ws) (l : zs.length = kn.length) (h : sp vs zs H Q Er) :
    wpAny (model X.prog X.w) X.A (call (.ref g) us (kn.zip ws)) (EP X pins σ Q) X.xe s := by
  refine wpAny_call (codeAny_mono (F X.A X.stack s H us vs ws zs Q Er hr I.env0 r rz l h) fun r s' hq => ?_)
  cases r with
  | error e => exact hx pins σ H s e s' I hq
  | ok fl =>
    cases fl with
    | ret u => exact I.after hq
    | next => exact False.elim hq
    | brk => exact False.elim hq
    | cont => exact False.elim hq
theorem pe_stat (he : PE X o ta) (c : Stat X.K C mc m g) (F : FnK X.prog X.w X.K X.mg X.base CX k g kn sp) (hr : Room k X.A) (hx : Passes CX X Er) (ha : PA X (e :: es) t) (hkw : PK X kws tk)
    (hall : (backToKw pos (keywordEach kws X.env)).all (·.1.isSome) = true := by rfl) (hks : (backToKw pos (keywordEach kws X.env)).filterMap (·.1) = kn := by rfl)
    (hst : starEach (e :: es) X.env = (false, eval e X.env) :: starEach es X.env := by rfl)
    (ht : eval (.Call (.Attribute o m apos) (e :: es) kws pos) X.env = (do
      let ov ← eval o X.env
      standAt apos.atName
      let (f, first) ← holding [ov] (getMethod ov m pl)
      callWith pos f first (backTo pos (starEach (e :: es) X.env)) (backToKw pos (keywordEach kws X.env))) := by rfl) :
    PE X (.Call (.Attribute o m apos) (e :: es) kws pos) (tStat C kn.length sp Er ta t tk) := by
  refine ⟨fun pins s σ H Q I h => ?_⟩
  refine PySem.W.methodCall_KW (pl := pl) (thn (he.run pins s σ H _ I h) fun u s1 ⟨x, H1, I1, rx, ex, q⟩ => ?_) ht
  subst ex
  obtain rfl : u = Value.ref C := rx
  refine getmeth_stat I1 c fun s2 I2 => ?_
  refine PySem.W.callWith_A (K := X.K) c.kp hall (thn (ha.run pos pins s2 σ H1 _ I2 q) fun us s3 ⟨vs, H2, I3, r, q2⟩ => ?_) hst
  refine thn (hkw.run pos pins s3 σ H2 _ I3 q2) fun ws s4 ⟨zs, H3, I4, rz, l, q3⟩ => ⟨I4.kIn, ?_⟩
  rw [hks]
  exact run_fnK F hr hx I4 r rz l q3
end
/-- a def without keywords in the call, by its bindings -/
theorem fnk_of {P : Program} {w : World} {K : PySem.W.Frag} {mg : Str → Option Value} {base : Heap} {CX : CXT} {k : Nat} {f : Addr} {fd : FuncData} {ps : List Str} {ds : List Value} {dvs : List V} {sp : Sp} (F : FnOk P w K mg base CX k f fd ps sp) (b : Binds K fd ps ds) (d : Vals dvs ds) :
    FnK P w K mg base CX k f [] (fun vs zs H Q Er => zs = [] ∧ sp (vs ++ dvs) H Q Er) := by
  intro A outer s H us vs ws zs Q Er hr e0 r rz l ⟨_, h⟩
  have e : ([] : List Str).zip ws = [] := rfl
  have KX : K.In s.heap := e0.mod.kin.keeps fun b o e => (e0.bs b o e).1
  have r2 := r.append d
  refine F.run A outer s H ⟨us, []⟩ (us ++ ds) (vs ++ dvs) Q Er hr e0 (b s us KX ?_) r2 h
  rw [← r2.length]
  exact F.len _ _ _ _ h
end E

/-! == and != by an own __eq__, either side first -/
namespace PySem.W
open PySem PySem.Calls PyProof.Rows Builtin
section
variable {prog : Program} {w : World} {A : Around} {E : Value → Shared → Prop} {s : Shared} {K : Frag} {x C f : Addr} {ox : Obj} {od : Option Obj} {b tb : Value}
theorem ifBound_objNe {M : Model} {args : List Value} {Q : Option Value → Shared → Prop} (X : K.In s.heap) (I : InstAt s.heap x ox C od) (hs : findIn K (.ref C) "__ne__" = some (some (.builtin "object.__ne__")))
    (h : wpAny M A (call (.builtin "object.__ne__") (.ref x :: args)) (fun v => Q (some v)) E s) : wpAny M A (callSpecialIfBound? (.ref x) "__ne__" args) Q E s := by
  simp only [callSpecialIfBound?, bindSpecialIfBound?]
  refine wpAny_holding (wpAny_bind (wpAny_bind (wpAny_bind (I.type.here ((looks_findIn X hs).here ?_)))))
  refine wpAny_bind (wpAny_askSetting (wpAny_ite ?_))
  have fin : wpAny M A (call (.builtin "object.__ne__") ([.ref x] ++ args) >>= fun v => pure (some v)) Q E s := wpAny_bind (wpAny_mono h (fun v s' h' => wpAny_pure h') fun _ _ h' => h')
  split
  · exact wpAny_bind (wpAny_of_eq (F.cmp_object.ne.bind _) (wpAny_pure (by exact fin)))
  · exact wpAny_tryCatch (wpAny_bind (wpAny_of_eq (F.cmp_object.ne.bind _) (wpAny_pure (by exact fin))))
/-- the default != by an own == that answers with a truth -/
theorem try_ne {Q : Option Value → Shared → Prop} (hu : A.in1.units < cLine) (X : K.In s.heap) (I : InstAt s.heap x ox C od) (hs : findIn K (.ref C) "__eq__" = some (some (.ref f))) (hf : isFn K (.ref f) = true)
    (hn : findIn K (.ref C) "__ne__" = some (some (.builtin "object.__ne__"))) (hm : mroIn K C (.type "object") = some true)
    (h : wpAny (model prog w) A.in1 (call (.ref f) [.ref x, b]) (fun v s' => ∃ r, v = .bool r ∧ Q (some (.bool (!r))) s') E s) : wpAny (model prog w) A (tryCompare (.ref x) "__ne__" b) Q E s := by
  unfold tryCompare
  refine wpAny_bind (ifBound_objNe X I hn ?_)
  refine wpAny_call (codeAny_call_builtin F.cmp_object.ne.plain F.cmpEntry_ne (check_slot F.cmpKind_ne F.cmpSplit_ne (I.type.andThen (looks_mroIn X hm)) (F.cmpArgs_ne _ _) ?_))
  unfold Builtin.«object.__ne__»
  refine wpAny_bind (m := slotArgs "__ne__" 1 ⟨[.ref x, b], []⟩) (wpAny_pure ?_)
  refine wpAny_bind (wpAny_cRoomFor hu ?_)
  refine wpAny_bind (m := callSpecialIfBound? (.ref x) (Str.ofString "__eq__") [b]) (ifBound_K X I hs hf (wpAny_mono h (fun v s' hv => ?_) fun _ _ e => e))
  obtain ⟨r, rfl, q⟩ := hv
  refine wpAny_bind (m := truthy (.bool r)) (wpAny_truthy_bool ?_)
  exact wpAny_pure (wpAny_pure q)
theorem try_eq {Q : Option Value → Shared → Prop} (X : K.In s.heap) (I : InstAt s.heap x ox C od) (hs : findIn K (.ref C) "__eq__" = some (some (.ref f))) (hf : isFn K (.ref f) = true)
    (h : wpAny (model prog w) A (call (.ref f) [.ref x, b]) (fun v s' => ∃ r, v = .bool r ∧ Q (some (.bool r)) s') E s) : wpAny (model prog w) A (tryCompare (.ref x) "__eq__" b) Q E s := by
  unfold tryCompare
  refine wpAny_bind (ifBound_K X I hs hf (wpAny_mono h (fun v s' hv => ?_) fun _ _ e => e))
  obtain ⟨r, rfl, q⟩ := hv
  exact wpAny_pure q
/-- the left one is asked -/
theorem cmp_left {op : CmpOp} {Q : Value → Shared → Prop} (hu : A.units < cLine) (X : K.In s.heap) (I : InstAt s.heap x ox C od) (hb : Looks (model prog w) s.heap (typeOf b) tb) (hn : notFirst K C tb = true)
    (one : wpAny (model prog w) A (tryCompare (.ref x) (cmpInfo op).2.1 b) (fun r s' => ∃ v, r = some v ∧ Q v s') E s) : wpAny (model prog w) A (richCompare op (.ref x) b) Q E s := by
  unfold richCompare
  simp only [oneThing_ref]
  refine wpAny_holding (wpAny_bind (wpAny_cRoomFor hu ?_))
  refine wpAny_bind (I.type.here (wpAny_bind (hb.here ?_)))
  split
  · rename_i q
    have e : subIn K tb (.ref C) = some false := by
      rcases Bool.or_eq_true_iff.mp hn with e | e
      · rw [beq_iff_eq.mp e] at q; simp at q
      · exact beq_iff_eq.mp e
    refine wpAny_bind ((looks_subIn X e).here ?_)
    simp only [Bool.false_eq_true, if_false]
    refine wpAny_bind (wpAny_mono one (fun r s' z => ?_) fun _ _ e => e)
    obtain ⟨v, rfl, hq⟩ := z
    exact wpAny_pure hq
  · refine wpAny_bind (wpAny_pure ?_)
    simp only [Bool.false_eq_true, if_false]
    refine wpAny_bind (wpAny_mono one (fun r s' z => ?_) fun _ _ e => e)
    obtain ⟨v, rfl, hq⟩ := z
    exact wpAny_pure hq
/-- the right one's class is below the left one's: it is asked first -/
theorem cmp_right {op : CmpOp} {y D : Addr} {oy : Obj} {odd : Option Obj} {Q : Value → Shared → Prop} (hu : A.units < cLine) (X : K.In s.heap) (I : InstAt s.heap x ox C od) (J : InstAt s.heap y oy D odd) (hne : D ≠ C) (hn : subIn K (.ref D) (.ref C) = some true)
    (one : wpAny (model prog w) A (tryCompare (.ref y) (cmpInfo op).2.2 (.ref x)) (fun r s' => ∃ v, r = some v ∧ Q v s') E s) : wpAny (model prog w) A (richCompare op (.ref x) (.ref y)) Q E s := by
  unfold richCompare
  simp only [oneThing_ref]
  refine wpAny_holding (wpAny_bind (wpAny_cRoomFor hu ?_))
  refine wpAny_bind (I.type.here (wpAny_bind (J.type.here ?_)))
  rw [if_pos (show ((Value.ref C != Value.ref D) = true) from by simp only [bne_iff_ne, ne_eq]; exact fun z => hne (Value.ref.inj z).symm)]
  refine wpAny_bind ((looks_subIn X hn).here ?_)
  simp only [if_true]
  refine wpAny_bind (wpAny_mono one (fun r s' z => ?_) fun _ _ e => e)
  obtain ⟨v, rfl, hq⟩ := z
  exact wpAny_bind (wpAny_rule (wpAny_pure hq))
end
end PySem.W
namespace E
open PySem PySem.Spec PyProof.Rows L2 StX
/-- a class whose == is the def at g, whose != is the default -/
structure OwnEq (K : PySem.W.Frag) (C g : Addr) : Prop where
  eq : PySem.W.findIn K (.ref C) "__eq__" = some (some (.ref g))
  fn : PySem.W.isFn K (.ref g) = true
  ne : PySem.W.findIn K (.ref C) "__ne__" = some (some (.builtin "object.__ne__"))
  ob : PySem.W.mroIn K C (.type "object") = some true
/-- x == y | x != y by the def at g; neg: != -/
def rOwnEq (K : PySem.W.Frag) (neg : Bool) (g : Addr) (sp : Sp) (Er : XK) : R2 := fun x y H Q => ∃ a C dx fs, x = .ref a ∧ H a = some (.ins C dx fs) ∧ OwnEq K C g ∧
  ((∃ t, TyX K H y t ∧ PySem.W.notFirst K C t = true ∧ sp [x, y] H (fun v H' => ∃ b, v = .bl b ∧ Q (.bl (b != neg)) H') Er) ∨
   (∃ b D dy gs, y = .ref b ∧ H b = some (.ins D dy gs) ∧ OwnEq K D g ∧ D ≠ C ∧ PySem.W.subIn K (.ref D) (.ref C) = some true ∧ sp [y, x] H (fun v H' => ∃ b, v = .bl b ∧ Q (.bl (b != neg)) H') Er))
section
variable {X : Cx} {CX : CXT} {k : Nat} {g : Addr} {sp : Sp} {Er : XK}
theorem op_ownEq (F : FnR X.prog X.w X.K X.mg X.base CX k g sp) (hr : Room (k + 1) X.A) (hx : Passes CX X Er) : OpR X (compareOp .Eq) (rOwnEq X.K false g sp Er) := by
  intro pins s σ H x y u v Q I rx ry h
  obtain ⟨a, C, dx, fs, rfl, ha, O, h⟩ := h
  cases (show u = Value.ref a from rx)
  obtain ⟨mA, OM, _⟩ := ins_get I.hok ha
  obtain ⟨od, J, _⟩ := OM.look
  show wpAny _ _ (richCompare .Eq _ _) _ _ _
  rcases h with ⟨t, ty, hn, q⟩ | ⟨b, D, dy, gs, rfl, hb, O2, hne, hs, q⟩
  · obtain ⟨P, Z, p, _⟩ := kit_of I ry ty
    refine PySem.W.cmp_left hr.units0 I.kIn J (Z.ty _ _ I.kIn p) hn ?_
    refine PySem.W.try_eq I.kIn J O.eq O.fn (wpAny_mono (wpAny_call (SlX.run_at (A := X.A) (us := [.ref a, v]) (ws := [.ref a, y]) F (hr.mono (Nat.le_succ _)) I.env0 hx I (.cons rfl (.cons ry .nil)) q)) (fun w s' z => ?_) fun _ _ x => x)
    obtain ⟨z', H', I', rz, r, er, qz⟩ := z
    subst er
    obtain rfl : w = Value.bool r := rz
    refine ⟨r, rfl, _, rfl, .bl r, H', I', rfl, ?_⟩
    have e : (r != false) = r := by cases r <;> rfl
    rw [e] at qz
    exact qz
  · cases (show v = Value.ref b from ry)
    obtain ⟨mB, OM2, _⟩ := ins_get I.hok hb
    obtain ⟨od2, J2, _⟩ := OM2.look
    refine PySem.W.cmp_right hr.units0 I.kIn J J2 hne hs ?_
    refine PySem.W.try_eq I.kIn J2 O2.eq O2.fn (wpAny_mono (wpAny_call (SlX.run_at (A := X.A) (us := [.ref b, .ref a]) (ws := [.ref b, .ref a]) F (hr.mono (Nat.le_succ _)) I.env0 hx I (.cons rfl (.cons rfl .nil)) q)) (fun w s' z => ?_) fun _ _ x => x)
    obtain ⟨z', H', I', rz, r, er, qz⟩ := z
    subst er
    obtain rfl : w = Value.bool r := rz
    refine ⟨r, rfl, _, rfl, .bl r, H', I', rfl, ?_⟩
    have e : (r != false) = r := by cases r <;> rfl
    rw [e] at qz
    exact qz
theorem op_ownNe (F : FnR X.prog X.w X.K X.mg X.base CX k g sp) (hr : Room (k + 1) X.A) (hx : Passes CX X Er) : OpR X (compareOp .NotEq) (rOwnEq X.K true g sp Er) := by
  intro pins s σ H x y u v Q I rx ry h
  obtain ⟨a, C, dx, fs, rfl, ha, O, h⟩ := h
  cases (show u = Value.ref a from rx)
  obtain ⟨mA, OM, _⟩ := ins_get I.hok ha
  obtain ⟨od, J, _⟩ := OM.look
  have hr1 : Room k X.A.in1 := hr.in1
  show wpAny _ _ (richCompare .NotEq _ _) _ _ _
  rcases h with ⟨t, ty, hn, q⟩ | ⟨b, D, dy, gs, rfl, hb, O2, hne, hs, q⟩
  · obtain ⟨P, Z, p, _⟩ := kit_of I ry ty
    refine PySem.W.cmp_left (op := .NotEq) hr.units0 I.kIn J (Z.ty _ _ I.kIn p) hn ?_
    refine PySem.W.try_ne hr1.units0 I.kIn J O.eq O.fn O.ne O.ob (wpAny_mono (wpAny_call (SlX.run_at (A := X.A.in1) (us := [.ref a, v]) (ws := [.ref a, y]) F hr1 I.env0.in1 hx I (.cons rfl (.cons ry .nil)) q)) (fun w s' z => ?_) fun _ _ x => x)
    obtain ⟨z', H', I', rz, r, er, qz⟩ := z
    subst er
    obtain rfl : w = Value.bool r := rz
    refine ⟨r, rfl, _, rfl, .bl (!r), H', I', rfl, ?_⟩
    have e : (r != true) = !r := by cases r <;> rfl
    rw [e] at qz
    exact qz
  · cases (show v = Value.ref b from ry)
    obtain ⟨mB, OM2, _⟩ := ins_get I.hok hb
    obtain ⟨od2, J2, _⟩ := OM2.look
    refine PySem.W.cmp_right (op := .NotEq) hr.units0 I.kIn J J2 hne hs ?_
    refine PySem.W.try_ne hr1.units0 I.kIn J2 O2.eq O2.fn O2.ne O2.ob (wpAny_mono (wpAny_call (SlX.run_at (A := X.A.in1) (us := [.ref b, .ref a]) (ws := [.ref b, .ref a]) F hr1 I.env0.in1 hx I (.cons rfl (.cons rfl .nil)) q)) (fun w s' z => ?_) fun _ _ x => x)
    obtain ⟨z', H', I', rz, r, er, qz⟩ := z
    subst er
    obtain rfl : w = Value.bool r := rz
    refine ⟨r, rfl, _, rfl, .bl (!r), H', I', rfl, ?_⟩
    have e : (r != true) = !r := by cases r <;> rfl
    rw [e] at qz
    exact qz
end
end E

/-! facts of the head: defs at any place, one Bool -/
namespace E
open PySem PySem.Spec PyProof.Rows L2 He
structure Df where
  ad : PySem.W.Frag → Addr
  name : Str
  qual : Str
  st : Stmt
  dfl : List Dv := []
  kwd : List (Str × Dv) := []
def fnAt (K : PySem.W.Frag) (a : Addr) : FnW := match K.lookup a with
  | some ⟨_, _, .func fd, _⟩ => some (fd.name, fd.qualname, fd.params, fd.body, fd.scope, fd.globals, fd.closure, fd.builtins)
  | _ => none
def Df.val (d : Df) : FnW := some (d.name, d.qual, defArgs d.st, .stmts (defBody d.st), defScope d.st, mainGlobals, [], builtinsNs)
def Df.dvs (K : PySem.W.Frag) (d : Df) : List V := d.dfl.map (Dv.v K)
def Df.kws (K : PySem.W.Frag) (d : Df) : List (Str × V) := d.kwd.map fun q => (q.1, q.2.v K)
def Df.ok (K : PySem.W.Frag) (d : Df) : Bool := PySem.W.keepIn K (.ref (d.ad K)) && (match K.lookup (d.ad K) with
  | some ⟨_, _, .func fd, _⟩ => PySem.W.codeIn K fd.code d.qual && (dflB K fd.defaults (d.dvs K) && kwdB K fd.kwdefaults (d.kws K))
  | _ => false)
theorem Df.funD {K : PySem.W.Frag} {d : Df} (e : fnAt K (d.ad K) = d.val) (c : d.ok K = true) : ∃ fd, FunD K d.name d.qual (defArgs d.st) (defBody d.st) (defScope d.st) (d.dvs K) (d.kws K) (d.ad K) fd := by
  obtain ⟨kp, c2⟩ := ba c
  unfold fnAt at e
  cases q : K.lookup (d.ad K) with
  | none =>
    rw [q] at c2
    cases c2
  | some o =>
    obtain ⟨oc, od, dt, osl⟩ := o
    rw [q] at c2 e
    cases dt with
    | func fd =>
      obtain ⟨n1, n2, n3, n4, n5, n6, n7, n8, n9, n10, n11, n12, n13, n14, n15⟩ := fd
      have e2 : (some (n1, n2, n3, n4, n5, n6, n7, n15) : FnW) = some (d.name, d.qual, defArgs d.st, .stmts (defBody d.st), defScope d.st, mainGlobals, [], builtinsNs) := e
      simp only [Option.some.injEq, Prod.mk.injEq] at e2
      obtain ⟨h1, h2, h3, h4, h5, h6, h7, h8⟩ := e2
      subst h1 h2 h6 h7 h8
      rw [h3, h4, h5] at q
      have c3 : (PySem.W.codeIn K n13 d.qual && (dflB K n8 (d.dvs K) && kwdB K n9 (d.kws K))) = true := c2
      obtain ⟨k1, k2⟩ := ba c3
      obtain ⟨k3, k4⟩ := ba k2
      exact ⟨_, ⟨oc, od, n8, n9, n10, n11, n12, n13, n14, osl, rfl, q, k1, dflB_ok k3, kwdB_ok k4⟩, kp⟩
    | _ => cases c2
abbrev AlE : Type := Bool × List FnW
def obsE (ex : PySem.W.Frag → Bool) (fn : List Df) (K : PySem.W.Frag) : AlE := (ex K && fn.all fun d => d.ok K, fn.map fun d => fnAt K (d.ad K))
def valE (fn : List Df) : AlE := (true, fn.map Df.val)
def SaysE (ex : PySem.W.Frag → Bool) (fn : List Df) (K : PySem.W.Frag) : Prop := obsE ex fn K = valE fn
def obsEG (n : Nat) (ex : PySem.W.Frag → Bool) (fn : List Df) (g : Addr → Option Obj) : AlE := obsE ex fn (frG g (PySem.cStatics :: asD g n))
def hookE (n : Nat) (ex : PySem.W.Frag → Bool) (fn : List Df) : PySem.W.Hook where
  α := AlE
  obs := fun s => obsEG n ex fn s.heap.get?
  val := fun _ => valE fn
  says := fun _ h => ∃ K : PySem.W.Frag, K.In h ∧ SaysE ex fn K
  of := fun _ _ e => ⟨_, frG_in, e⟩
  keeps := fun _ _ _ ⟨K, hK, c⟩ k => ⟨K, PySem.W.Frag.In.keeps hK k, c⟩
theorem obsEG_eq {n : Nat} {ex : PySem.W.Frag → Bool} {fn : List Df} {g : Addr → Option Obj} {s : Shared} (h : ∀ a, g a = s.heap.get? a) : obsEG n ex fn g = (hookE n ex fn).obs s := by
  have e : g = s.heap.get? := funext h
  rw [e] <;> rfl
section
variable {ex : PySem.W.Frag → Bool} {fn : List Df} {K : PySem.W.Frag}
theorem SaysE.fact (c : SaysE ex fn K) : ex K = true := (ba (show (ex K && fn.all fun d => d.ok K) = true from congrArg (fun z : AlE => z.1) c)).1
theorem SaysE.def_ (c : SaysE ex fn K) (i : Nat) {d : Df} (h : fn[i]? = some d := by rfl) : ∃ fd, FunD K d.name d.qual (defArgs d.st) (defBody d.st) (defScope d.st) (d.dvs K) (d.kws K) (d.ad K) fd := by
  have c2 := (ba (show (ex K && fn.all fun d => d.ok K) = true from congrArg (fun z : AlE => z.1) c)).2
  have e : fn.map (fun d => fnAt K (d.ad K)) = fn.map Df.val := congrArg (fun z : AlE => z.2) c
  have e2 : (fn.map fun d => fnAt K (d.ad K))[i]? = (fn.map Df.val)[i]? := by rw [e]
  rw [List.getElem?_map, List.getElem?_map, h] at e2
  exact Df.funD (Option.some.inj e2) (List.all_eq_true.mp c2 d (List.mem_of_getElem? h))
end
/-! facts of classes -/
/-- what a field, isinstance ask of the class at C -/
structure ClsF (K : PySem.W.Frag) (C : Addr) : Prop where
  cls : Cls K C
  ca : PySem.W.findIn K (.ref C) "__class__" = some (some (.builtin "object.__class__"))
  cn : PySem.W.specialIn K (.builtin "object.__class__") "__get__" = some (some (.builtin "getset_descriptor.__get__"))
  ct : PySem.W.takesIn K (.builtin "object.__class__") = some true
  cm : PySem.W.mroIn K C (.type "object") = some true
def clsFB (K : PySem.W.Frag) (C : Addr) : Bool := PySem.W.plainGet K C Str.empty && (PySem.W.hasDictIn K C && (PySem.W.plainOver K C && (eqO (PySem.W.findIn K (.ref C) "__setattr__") (some (some (.builtin "object.__setattr__"))) &&
  (eqO (PySem.W.findIn K (.ref C) "__class__") (some (some (.builtin "object.__class__"))) && (eqO (PySem.W.specialIn K (.builtin "object.__class__") "__get__") (some (some (.builtin "getset_descriptor.__get__"))) &&
  (decide (PySem.W.takesIn K (.builtin "object.__class__") = some true) && decide (PySem.W.mroIn K C (.type "object") = some true)))))))
theorem clsFB_ok {K : PySem.W.Frag} {C : Addr} (h : clsFB K C = true) : ClsF K C := by
  obtain ⟨h1, h⟩ := ba h
  obtain ⟨h2, h⟩ := ba h
  obtain ⟨h3, h⟩ := ba h
  obtain ⟨h4, h⟩ := ba h
  obtain ⟨h5, h⟩ := ba h
  obtain ⟨h6, h⟩ := ba h
  obtain ⟨h7, h8⟩ := ba h
  exact ⟨⟨h1, h2, h3, eqO_ok h4⟩, eqO_ok h5, eqO_ok h6, of_decide_eq_true h7, of_decide_eq_true h8⟩
theorem ClsF.ty {K : PySem.W.Frag} {C a dx : Addr} {H : Hp} {fs : List (Str × V)} (c : ClsF K C) (h : H a = some (.ins C dx fs)) : TyX K H (.ref a) (.ref C) := .base (.ins h c.cls c.ca c.cn c.ct c.cm)
def noAtB (K : PySem.W.Frag) (C : Addr) (fs : List Str) : Bool := fs.all fun f => eqO (PySem.W.findIn K (.ref C) f) (some none)
theorem noAtB_ok {K : PySem.W.Frag} {C : Addr} {fs : List Str} (h : noAtB K C fs = true) {f : Str} (hf : f ∈ fs) : NoAttr K C f := eqO_ok (List.all_eq_true.mp h f hf)
def mkB (K : PySem.W.Frag) (C f : Addr) : Bool := PySem.W.makesIn K C && (eqO (PySem.W.findIn K (.ref C) "__init__") (some (some (.ref f))) && (PySem.W.isFn K (.ref f) && PySem.W.keepIn K (.ref C)))
theorem mkB_ok {K : PySem.W.Frag} {C f : Addr} (h : mkB K C f = true) : Mk K C f := by
  obtain ⟨h1, h⟩ := ba h
  obtain ⟨h2, h⟩ := ba h
  obtain ⟨h3, h4⟩ := ba h
  exact ⟨h1, eqO_ok h2, h3, h4⟩
def ownEqB (K : PySem.W.Frag) (C g : Addr) : Bool := eqO (PySem.W.findIn K (.ref C) "__eq__") (some (some (.ref g))) && (PySem.W.isFn K (.ref g) && (eqO (PySem.W.findIn K (.ref C) "__ne__") (some (some (.builtin "object.__ne__"))) && decide (PySem.W.mroIn K C (.type "object") = some true)))
theorem ownEqB_ok {K : PySem.W.Frag} {C g : Addr} (h : ownEqB K C g = true) : OwnEq K C g := by
  obtain ⟨h1, h⟩ := ba h
  obtain ⟨h2, h⟩ := ba h
  obtain ⟨h3, h4⟩ := ba h
  exact ⟨eqO_ok h1, h2, eqO_ok h3, of_decide_eq_true h4⟩
/-- the constant f of the class is the text v -/
def conB (K : PySem.W.Frag) (C : Addr) (f : Str) (v : V) : Bool := (match PySem.W.findIn K (.ref C) f with
  | some (some u) => relB v u && decide (PySem.W.specialIn K u "__get__" = some none)
  | _ => false) && !PySem.W.copiedNames.contains f
theorem conB_ok {K : PySem.W.Frag} {C : Addr} {f : Str} {v : V} (h : conB K C f v = true) : ∃ u, Con K C f v u := by
  obtain ⟨h1, h2⟩ := ba h
  cases e : PySem.W.findIn K (.ref C) f with
  | none => rw [e] at h1; cases h1
  | some r =>
    rw [e] at h1
    cases r with
    | none => cases h1
    | some u =>
      obtain ⟨h3, h4⟩ := ba h1
      exact ⟨u, e, relB_ok h3, of_decide_eq_true h4, by simpa using h2⟩
/-- the type of the class at C -/
def mcOf (K : PySem.W.Frag) (C : Addr) : Value := match K.lookup C with
  | some o => o.cls
  | none => .none
/-- C.m: a staticmethod's def -/
def stAd (K : PySem.W.Frag) (C : Addr) (m : Str) : Addr := match PySem.W.findCls K (.ref C) (mcOf K C) m with
  | some (.get _ (.ref p) _ _) => (match PySem.W.recIn K p "staticmethod" with
    | some (.ref g :: _) => g
    | _ => 0)
  | some (.val (.ref g)) => g
  | _ => 0
end E

/-! t[::-1] of a tuple; makes, static calls by name -/
namespace HT
open PySem PySem.Spec PyProof.Rows
section
variable {prog : Program} {w : World} {A : Around} {E : Value → Shared → Prop} {s : Shared}
theorem adjust_rev (n : Nat) : Builtin.Slice.sliceAdjust none none (-1) (n : Int) = ((n : Int) - 1, -1) := by
  unfold Builtin.Slice.sliceAdjust
  simp
theorem places_rev (n : Nat) : Builtin.Slice.slicePlaces ((n : Int) - 1) (-1) (-1) = n := by
  unfold Builtin.Slice.slicePlaces
  simp
  try omega
theorem pick_rev (xs : Array Value) : ((List.range xs.size).filterMap fun (k : Nat) => xs[(((xs.size : Int) - 1) + (k : Int) * (-1)).toNat]?).toArray = xs.toList.reverse.toArray := by
  congr 1
  refine List.ext_getElem? fun i => ?_
  have key : ∀ m, m ≤ xs.size → (List.range m).filterMap (fun (k : Nat) => xs[(((xs.size : Int) - 1) + (k : Int) * (-1)).toNat]?) = (xs.toList.reverse).take m := by
    intro m
    induction m with
    | zero => intro _; rfl
    | succ m ih =>
      intro hm
      rw [List.range_succ, List.filterMap_append, ih (by omega), List.take_succ]
      congr 1
      have e : (((xs.size : Int) - 1) + (m : Int) * (-1)).toNat = xs.size - 1 - m := by omega
      have e2 : xs.toList.reverse[m]? = xs[xs.size - 1 - m]? := by
        rw [List.getElem?_reverse (by simp; omega)]
        simp
      simp only [List.filterMap_cons, List.filterMap_nil, e, e2]
      cases xs[xs.size - 1 - m]? <;> rfl
  rw [key xs.size (Nat.le_refl _), List.take_of_length_le (by simp)]
theorem sliceApplied_rev {sl : Addr} {vl vu vs : Value} {n : Nat} {Q : Int × Int × Nat → Shared → Prop} (hs : s.heap.IsSliceOf sl vl vu vs) (pl : IsPart vl none) (pu : IsPart vu none) (ps : IsPart vs (some (-1)))
    (h : Q ((n : Int) - 1, -1, n) s) : wpAny (model prog w) A (Builtin.Slice.sliceApplied (.ref sl) (pure (n : Int))) Q E s := by
  obtain ⟨os, hos, hcs, hds⟩ := id hs
  unfold Builtin.Slice.sliceApplied Builtin.Slice.sliceFields
  refine wpAny_bind (wpAny_bind (wpAny_field hos hds (x := vl) rfl (wpAny_bind (wpAny_field hos hds (x := vu) rfl (wpAny_bind (wpAny_field hos hds (x := vs) rfl (wpAny_pure ?_)))))))
  refine wpAny_bind (slicePart_ ps ?_)
  show wpAny _ _ (if ((-1 : Int) == 0) = true then _ else _) _ _ s
  rw [if_neg (by decide)]
  refine wpAny_bind (slicePart_ pl (wpAny_bind (slicePart_ pu (wpAny_bind (wpAny_pure ?_)))))
  show wpAny _ _ (match Builtin.Slice.sliceAdjust none none (-1) (n : Int) with | (lo, hi) => pure (lo, (-1 : Int), Builtin.Slice.slicePlaces lo hi (-1))) _ _ s
  rw [adjust_rev]
  show wpAny _ _ (pure ((n : Int) - 1, (-1 : Int), Builtin.Slice.slicePlaces ((n : Int) - 1) (-1) (-1))) _ _ s
  rw [places_rev]
  exact wpAny_pure h
theorem getItem_tuple_rev {t sl : Addr} {items : Array Value} {vl vu vs : Value} {Q : Value → Shared → Prop} (ht : IsTup s.heap t items) (hs : s.heap.IsSliceOf sl vl vu vs) (pl : IsPart vl none) (pu : IsPart vu none) (ps : IsPart vs (some (-1)))
    (h : Q (.ref s.heap.objs.size) { s with heap := s.heap.push { cls := .type "tuple", data := .seq items.toList.reverse.toArray } })
    (hsz : items.size ≤ sizeLine) : wpAny (model prog w) A (getItem (.ref t) (.ref sl)) Q E s := by
  have htake : sizeOk (.seq items.toList.reverse.toArray) := by
    show items.toList.reverse.toArray.size ≤ sizeLine
    simpa using hsz
  obtain ⟨os, hos, hcs, hds⟩ := id hs
  have hTs : s.TypeIs (.ref sl) "slice" := ⟨os, hos, hcs⟩
  unfold getItem
  try with_reducible refine wpAny_holding ?_
  first | refine wpAny_bind (wpAny_pure ?_) | skip
  refine wpAny_bind (wpAny_sequenceKey ht.typeIs (by decide) ?_)
  refine wpAny_bind (wpAny_callSpecial?_slot (name := Str.ofString "__getitem__") ht.typeIs PyProof.Rows.slot_tuple_getitem
    (wpAny_call_entry PyProof.Rows.slot_tuple_getitem ht.typeIs entry_tuple_getitem ?_ (args_tuple_getitem _ _)))
  show wpAny _ _ (Builtin.Tuple.tupleItemsOf (.ref t) >>= _) _ _ s
  refine wpAny_bind (tupleItemsOf_ ht ?_)
  refine wpAny_bind (wpAny_typeOf hTs ?_)
  rw [if_pos (by decide)]
  refine wpAny_bind (sliceApplied_rev hs pl pu ps ?_)
  have hno : ¬ ((((items.size : Int) - 1) == 0 && (-1 : Int) == 1 && items.size == items.size) = true) := by
    intro q
    rw [Bool.and_eq_true, Bool.and_eq_true] at q
    exact absurd q.1.2 (by decide)
  show wpAny _ _ (if (((items.size : Int) - 1) == 0 && (-1 : Int) == 1 && items.size == items.size) = true then _ else _) _ _ s
  rw [if_neg hno, pick_rev]
  first
    | exact wpAny_bind (m := Builtin.Tuple.tupleExact _) (wpAny_newObj_type (wpAny_pure ⟨_, rfl, wpAny_pure h⟩) htake)
    | exact wpAny_bind (m := Builtin.Tuple.tupleExact _) (wpAny_newObj_type (wpAny_bind (wpAny_pure (wpAny_pure ⟨_, rfl, wpAny_pure h⟩))) htake)
    | exact wpAny_bind (wpAny_bind (m := Builtin.Tuple.tupleExact _) (wpAny_newObj_type (wpAny_pure (wpAny_pure ⟨_, rfl, wpAny_pure h⟩)) htake))
    | exact wpAny_bind (wpAny_bind (m := Builtin.Tuple.tupleExact _) (wpAny_newObj_type (wpAny_pure ⟨_, rfl, wpAny_pure h⟩) htake))
end
end HT
namespace L2
open PySem PySem.Spec PyProof.Rows
section
variable {X : Cx}
def tRevT (K : PySem.W.Frag) (te : TE) : TE := fun σ H Q => te σ H fun x H1 => ∃ a xs, x = .ref a ∧ SqT K H1 a xs ∧ ∀ p, H1 p = none → Q (.ref p) (upd H1 p (.tup xs.reverse))
theorem pe_revT {e : Expr} {te : TE} {k : Nat} {p1 p2 p3 pos : Pos} (he : PE X e te) : PE X (.Subscript e (.Slice none none (some (.UnaryOp .USub (.Constant (.int 1) k p1) p2)) p3) pos) (tRevT X.K te) := by
  refine ⟨fun pins s σ H Q I h => ?_⟩
  refine Subscript_ (thn (he.run pins s σ H _ I h) fun v s1 ⟨x, H1, I1, r1, q1⟩ => ?_)
  obtain ⟨a, xs, ex, hx, q⟩ := q1
  subst ex
  cases r1
  have hst : PO X (some (.UnaryOp .USub (.Constant (.int 1) k p1) p2)) (tPart (tUn (rU fun i => .int (-i)) (tC (.int 1)))) := po_some (pe_un un_neg pe_int)
  refine wpAny_Slice (thn (po_none.run pins s1 σ H1 (fun o H2 => o = none ∧ H2 = H1) I1 ⟨rfl, rfl⟩) fun vl s2 ⟨l, H2, I2, pl, el, e2⟩ => ?_)
  subst el e2
  refine thn (po_none.run pins s2 σ H2 (fun o H3 => o = none ∧ H3 = H2) I2 ⟨rfl, rfl⟩) fun vu s3 ⟨u, H3, I3, pu, eu, e3⟩ => ?_
  subst eu e3
  refine thn (hst.run pins s3 σ H3 (fun o H4 => o = some (-1) ∧ H4 = H3) I3 ⟨1, rfl, -1, rfl, rfl, rfl⟩) fun vs s4 ⟨o, H4, I4, ps, eo, e4⟩ => ?_
  subst eo e4
  have I5 : Inv X pins σ H4 { s4 with heap := s4.heap.push { cls := .type "slice", data := .fields #[vl, vu, vs] } } := I4.kept (t' := s4.toks) fun b ob q => Heap.get?_push_of_some _ q
  obtain ⟨its, r, ht, hz⟩ := I5.tuple hx
  have hlen := r.length
  show wpAny (model X.prog X.w) X.A (subscriptTail e (.Slice none none (some (.UnaryOp .USub (.Constant (.int 1) k p1) p2)) p3) (.ref a) (.ref s4.heap.objs.size)) (EP X pins σ Q) X.xe { s4 with heap := s4.heap.push { cls := .type "slice", data := .fields #[vl, vu, vs] } }
  refine tail_any (ops := [.ref a, .ref s4.heap.objs.size]) ht.typeIs (PyProof.Rows.slot_tuple_getitem.lookup) ?_ (by with_unfolding_all rfl)
  refine HT.getItem_tuple_rev ht (Heap.IsSliceOf.new _ vl vu vs) pl pu ps ?_ (by rw [List.size_toArray]; omega)
  refine ⟨.ref _, _, I5.laid (t' := s4.toks) (o := .tup xs.reverse) (fun b ob q => Heap.get?_push_of_some _ q) (Nat.le_refl _) ?_, rfl, q _ (I5.hok.fresh (Nat.le_refl _))⟩
  exact ⟨by rw [List.length_reverse]; exact hz, _, r.reverse, IsTup.new _ _⟩
end
end L2
namespace E
open PySem PySem.Spec PyProof.Rows L2 He
/-- a def with keyword-only parameters, by its bindings -/
theorem fnk_kb {P : Program} {w : World} {K : PySem.W.Frag} {mg : Str → Option Value} {base : Heap} {CX : CXT} {k n : Nat} {f : Addr} {fd : FuncData} {ps ks : List Str} {sp : Sp} {g : List Value → List Value → List Value} {gV : List V → List V → List V}
    (F : FnOk P w K mg base CX k f fd ps sp) (hb : KBn K fd ps n ks g gV) : FnK P w K mg base CX k f ks (fun vs zs H Q E => vs.length = n ∧ sp (gV vs zs) H Q E) := by
  intro A outer s H us vs ws zs Q E hr e0 r rz l ⟨hn, h⟩
  have KX : K.In s.heap := e0.mod.kin.keeps fun b o e => (e0.bs b o e).1
  have l1 : us.length = n := by rw [← r.length]; exact hn
  have l2 : ws.length = ks.length := by rw [← rz.length]; exact l
  exact F.run A outer s H ⟨us, ks.zip ws⟩ (g us ws) (gV vs zs) Q E hr e0 (hb.to s us ws KX l1 l2) (hb.rel r rz) h
/-- the module's name x is the class at C, its __init__ keeps sp -/
structure Mkr (P : Program) (w : World) (K : PySem.W.Frag) (mg : Str → Option Value) (base : Heap) (k : Nat) (x : Str) (C : Addr) (kn : List Str) (sp : List V → List V → Hp → VK → XK → Prop) : Prop where
  ex : ∃ f, Mk K C f ∧ FnK P w K mg base CX0 k f kn sp
  hm : mg x = some (.ref C)
structure Stt (P : Program) (w : World) (K : PySem.W.Frag) (mg : Str → Option Value) (base : Heap) (k : Nat) (C : Addr) (m : Str) (kn : List Str) (sp : List V → List V → Hp → VK → XK → Prop) : Prop where
  ex : ∃ mc g, Stat K C mc m g ∧ FnK P w K mg base CX0 k g kn sp
section
variable {X : Cx} {k j : Nat} {C : Addr} {x m : Str} {kn : List Str} {sp : List V → List V → Hp → VK → XK → Prop} {p q pos apos : Pos} {e o : Expr} {es : List Expr} {kws : List Keyword} {ta te : TE} {t tk : TA} {pl : Sem Bool}
theorem pe_mk (c : Mkr X.prog X.w X.K X.mg X.base k x C kn sp) (hr : Room j X.A) (hk : k + 1 ≤ j) (hg : Gl X x) (ha : PA X (e :: es) t) (hkw : PK X kws tk)
    (hall : (backToKw pos (keywordEach kws X.env)).all (·.1.isSome) = true := by rfl) (hks : (backToKw pos (keywordEach kws X.env)).filterMap (·.1) = kn := by rfl) (hdb : (x == ("__debug__" : Str)) = false := by decide)
    (he : starEach (e :: es) X.env = (false, eval e X.env) :: starEach es X.env := by rfl) : PE X (.Call (.Name x p) (e :: es) kws pos) (tMakeA C kn.length sp E0 t tk) := by
  obtain ⟨f, M, F⟩ := c.ex
  exact pe_makeA M F (hr.mono hk) hg c.hm pass0 ha hkw hall hks hdb he
theorem pe_st (he : PE X o ta) (c : Stt X.prog X.w X.K X.mg X.base k C m kn sp) (hr : Room j X.A) (hk : k ≤ j) (ha : PA X (e :: es) t) (hkw : PK X kws tk)
    (hall : (backToKw pos (keywordEach kws X.env)).all (·.1.isSome) = true := by rfl) (hks : (backToKw pos (keywordEach kws X.env)).filterMap (·.1) = kn := by rfl)
    (hst : starEach (e :: es) X.env = (false, eval e X.env) :: starEach es X.env := by rfl)
    (ht : eval (.Call (.Attribute o m apos) (e :: es) kws pos) X.env = (do
      let ov ← eval o X.env
      standAt apos.atName
      let (f, first) ← holding [ov] (getMethod ov m pl)
      callWith pos f first (backTo pos (starEach (e :: es) X.env)) (backToKw pos (keywordEach kws X.env))) := by rfl) :
    PE X (.Call (.Attribute o m apos) (e :: es) kws pos) (tStat C kn.length sp E0 ta t tk) := by
  obtain ⟨mc, g, c, F⟩ := c.ex
  exact pe_stat he c F (hr.mono hk) pass0 ha hkw hall hks hst ht
end
end E

/-! a method whose body is: return super().m() -/
namespace E
open PySem PySem.Spec PyProof.Rows L2 He
open PySem.W (ksEnv ksFn ks_superIn)
def cxK (P : Program) (w : World) (K : PySem.W.Frag) (mg : Str → Option Value) (base : Heap) (qual : Str) (scope : Scope) (f : Addr) (cd : Value) (cc : Addr) (A : Around) (outer : List Env) (s : Shared) (H : Hp) : Cx where
  prog := P
  w := w
  K := K
  mg := mg
  base := base
  A := A.deeper (ksEnv qual scope s.heap.objs.size f cd cc)
  N := []
  s_0 := s
  H_0 := H
  env := ksEnv qual scope s.heap.objs.size f cd cc
  outer := outer
  stack := ksEnv qual scope s.heap.objs.size f cd cc :: outer
  ex := []
  fn := fun _ => false
  calm := true
  pn := []
  xe := fun _ _ => False
/-- what the scope of such a method says -/
structure SupS (scope : Scope) (a : Str) : Prop where
  kind : scope.kind = .function
  sup : scope.names.lookup ("super" : Str) = some .globalImplicit
  cls : scope.names.lookup ("__class__" : Str) = some .free
  arg : scope.names.lookup a = some .local
  only : ∀ x, (scope.names.lookup x = some .cell ∨ scope.names.lookup x = some .free) → x = "__class__"
  cell : ∀ x ∈ scope.names, x.2 ≠ .cell
  co : scope.isCoroutine = false
  gen : scope.isGenerator = false
section
variable {P : Program} {w : World} {K : PySem.W.Frag} {mg : Str → Option Value} {base : Heap} {qual name : Str} {scope : Scope} {f cc cda D g : Addr} {A : Around} {outer : List Env} {s : Shared} {H : Hp} {a : Str} {cl : Value} {cld : Option Addr} {csl : Array (Option Value)}
theorem one_cell {x : Str} {c : Addr} (h : ([("__class__", cc)] : List (Str × Addr)).lookup x = some c) : x = "__class__" ∧ c = cc := by
  rw [List.lookup_cons] at h
  split at h
  · rename_i e
    exact ⟨beq_iff_eq.mp e, (Option.some.inj h).symm⟩
  · cases h
theorem inv_sup (S : SupS scope a) (hd : A.handled = none) (e0 : Env0 P w K mg base A outer s H) (hcell : K.lookup cc = some ⟨cl, cld, .cell (some (.ref D)), csl⟩) {h₀ : Heap} {m : Str → Option Value} {t : Nat} (hns : h₀.Ns s.heap.objs.size m) (hk : ∀ b o, s.heap.get? b = some o → h₀.get? b = some o) :
    Inv (cxK P w K mg base qual scope f (.ref cda) cc A outer s H) [] [] H { s with heap := h₀, toks := t } := by
  have noA : ∀ b : Addr, b ∉ (cxK P w K mg base qual scope f (.ref cda) cc A outer s H).ex := fun b z => absurd (show b ∈ ([] : List Addr) from z) (by simp)
  have hb := e0.bs _ _ (e0.mod.kin _ _ hcell)
  refine ⟨⟨e0.mod, S.kind, rfl, rfl, Nat.le_refl _, fun y z c h1 h2 => ?_, fun y hy => ?_, (fun y c h _ => by cases h), fun _ => hd, Around.frames_deeper e0.frames, .inr ⟨rfl, rfl⟩, fun b z => absurd z (noA b), e0.bs, e0.bsz, fun b _ _ => noA b, fun b z => absurd z (noA b), e0.funs, e0.frf⟩,
    rfl, e0.bare, Un.kept hk, ⟨m, hns, fun i y v h1 _ _ => ?_⟩, fun y c h => ?_, e0.hok.fresh (Nat.le_refl _), fun y c h => ?_, fun p hp => absurd (show p ∈ ([] : List (Addr × Obj)) from hp) (by simp), e0.hok.kept hk, rfl⟩
  · exact (one_cell h1).1.trans (one_cell h2).1.symm
  · have e := S.only y hy
    subst e
    exact ⟨cc, rfl⟩
  · exact absurd h1 (by
      show ¬ (([] : List Str)[i]? = some y)
      simp)
  · obtain ⟨_, rfl⟩ := one_cell h
    exact ⟨_, ⟨_, hk _ _ hb.1, rfl⟩⟩
  · obtain ⟨_, rfl⟩ := one_cell h
    exact hb.2
/-- whom super() of the class at D finds for an instance of the class at C -/
structure SupOk (K : PySem.W.Frag) (C D : Addr) (m : Str) (g : Addr) : Prop where
  at_ : ks_superIn K C D m = some (some (.ref g))
  ty : PySem.W.typeIn K (.ref g) = some (.type "function")
  fi : PySem.W.fnIn K g = true
  sub : PySem.W.mroIn K C (.ref D) = some true
theorem fnr_super {params : Arguments} {dV kV doc pm ct oc : Value} {an od : Option Addr} {osl : Array (Option Value)} {m : Str} {p0 p1 apos pos rpos : Pos} {ar : Arg} {vsC : Array Value} {file : Str} {tf : Tok} {ccl : Value} {cdd : Option Addr} {ccs : Array (Option Value)} {cdD : ClassData} {k : Nat} {sp : Sp} {pl : Addr → Sem Bool}
    (S : SupS scope ar.arg)
    (lk : K.lookup f = some ⟨oc, od, .func (ksFn name qual params [.Return (some (.Call (.Attribute (.Call (.Name "super" p0) [] [] p1) m apos) [] [] pos)) rpos] scope dV kV doc pm an (.ref cda) ct cc), osl⟩) (hcd : PySem.W.codeIn K (.ref cda) qual = true)
    (hp : (params.posonlyargs ++ params.args).head? = some ar)
    (hbind : ∀ (s : Shared) (u : Value), BindsTo s (ksFn name qual params [.Return (some (.Call (.Attribute (.Call (.Name "super" p0) [] [] p1) m apos) [] [] pos)) rpos] scope dV kV doc pm an (.ref cda) ct cc) ⟨[u], []⟩ [(ar.arg, u)])
    (hcode : K.lookup cda = some ⟨ccl, cdd, .fields vsC, ccs⟩) (hvs : vsC[2]? = some (.str file tf)) (hfile : ((P.main.file : Str) == file) = true)
    (hcell : K.lookup cc = some ⟨cl, cld, .cell (some (.ref D)), csl⟩) (hD : PySem.W.clsIn K D = some cdD) (hmg : mg "super" = none)
    (htop : (P.main.scope.names.lookup ("super" : Str)).isSome = false) (hst : PySem.W.nsIn K cStatics "thirdparty.any" = some none) (hm : (m == ("__class__" : Str)) = false)
    (ht : ∀ L : Addr, eval (.Call (.Attribute (.Call (.Name "super" p0) [] [] p1) m apos) [] [] pos) (ksEnv qual scope L f (.ref cda) cc) = (do
      let ov ← attributeBase (.Call (.Name "super" p0) [] [] p1) m (ksEnv qual scope L f (.ref cda) cc) (eval (.Call (.Name "super" p0) [] [] p1) (ksEnv qual scope L f (.ref cda) cc))
      standAt apos.atName
      let (f2, first) ← holding [ov] (getMethod ov m (pl L))
      callWith pos f2 first (backTo pos (starEach [] (ksEnv qual scope L f (.ref cda) cc))) []))
    (F : FnR P w K mg base CX0 k g sp) : FnR P w K mg base CX0 (k + 1) f (fun vs H Q E => ∃ x C dx fs, vs = [.ref x] ∧ H x = some (.ins C dx fs) ∧ SupOk K C D m g ∧ sp [.ref x] H Q E) := by
  intro A outer s H us vs Q E hr e0 r hsp
  obtain ⟨x, C, dx, fs, rfl, hx, ok, hq⟩ := hsp
  obtain ⟨u, rfl, ru⟩ := r.one
  cases (show u = Value.ref x from ru)
  have KX : K.In s.heap := e0.mod.kin.keeps fun b o e => (e0.bs b o e).1
  have lim : s.heap.NoLimit := e0.mod.nolimit.keeps fun b o e => (e0.bs b o e).1
  refine PySem.ks_codeAny_call_defAt hr.depth (KX _ _ lk) rfl lim (PySem.W.codeRec_of KX hcd) rfl (hbind s (.ref x)) S.cell (fun y hy => ?_) (fun h₀ hns hk => ?_) S.co S.gen S.kind
  · have e : y = (ar.arg, Value.ref x) := by simpa using hy
    subst e
    exact S.arg
  have I := inv_sup (qual := qual) (f := f) (cda := cda) (t := s.toks + [(ar.arg, Value.ref x)].length) S hr.hd e0 hcell hns hk
  have hr' : Room k (A.deeper (ksEnv qual scope s.heap.objs.size f (.ref cda) cc)) := hr.deeper _
  have fin : PySem.wpAt (model P w) (A.deeper (ksEnv qual scope s.heap.objs.size f (.ref cda) cc)) (.func [.Return (some (.Call (.Attribute (.Call (.Name "super" p0) [] [] p1) m apos) [] [] pos)) rpos] (ksEnv qual scope s.heap.objs.size f (.ref cda) cc))
      (eval (.Call (.Attribute (.Call (.Name "super" p0) [] [] p1) m apos) [] [] pos) (ksEnv qual scope s.heap.objs.size f (.ref cda) cc)) (EP (cxK P w K mg base qual scope f (.ref cda) cc A outer s H) [] [] Q) (fun _ _ => False) { s with heap := h₀, toks := s.toks + [(ar.arg, Value.ref x)].length } := by
    refine PySem.ks_wpAt_MethodCall (pl := pl _) ?_ (ht _)
    have X1 : K.In h₀ := I.kIn
    obtain ⟨mA, O, _⟩ := ins_get I.hok hx
    obtain ⟨odx, J, _⟩ := O.look
    obtain ⟨oD, hD1, hD2⟩ : ∃ oD, h₀.get? D = some oD ∧ oD.data = .cls cdD := by
      unfold PySem.W.clsIn at hD
      split at hD
      · rename_i c d cd' sl ho
        cases hD
        exact ⟨_, X1 _ _ ho, rfl⟩
      · cases hD
    refine PySem.ks_wpAt_super_base (env := ksEnv qual scope s.heap.objs.size f (.ref cda) cc) S.sup S.cls hm rfl (X1 _ _ lk) rfl hp rfl (X1 _ _ hcode) rfl hvs hfile htop ?_
    obtain ⟨mb, hb1, hb2⟩ := I.mod.blt
    refine PySem.W.ks_loadName_global S.kind S.sup (Calls.loadGlobal_builtin (env := ksEnv qual scope s.heap.objs.size f (.ref cda) cc) (I.mod.glob.keeps I.bk) hmg (hb1.keeps I.bk) ((hb2 "super" (by decide)).trans (by decide +kernel)) ⟨rfl, ?_⟩)
    refine wpAny_loadName_free S.kind S.cls rfl ⟨_, X1 _ _ hcell, rfl⟩ ?_
    refine wpAny_loadName_local S.kind S.arg hns (v := .ref x) (by simp) ?_
    refine PySem.ks_wpAny_isType_cls hD1 hD2 ⟨rfl, ?_⟩
    refine PySem.ks_wpAny_call_super hD1 hD2 J.at_ J.cls (fun c e => ?_) (PySem.W.looks_mroIn X1 ok.sub) (fun h1 so k1 => ?_)
    · have := J.no
      unfold PySem.W.notCls at this
      rw [e] at this
      exact Bool.noConfusion this
    have I1 := I.kept (h' := h1) (t' := s.toks + [(ar.arg, Value.ref x)].length) k1
    have X2 : K.In h1 := I1.kIn
    obtain ⟨mA2, O2, _⟩ := ins_get I1.hok hx
    obtain ⟨odx2, J2, _⟩ := O2.look
    obtain ⟨of, hof, hofc⟩ : ∃ of, h1.get? g = some of ∧ of.cls = .type "function" := by
      have ht' : (K.lookup g).map (·.cls) = some (.type "function") := ok.ty
      cases z : K.lookup g with
      | none => rw [z] at ht'; cases ht'
      | some of => rw [z] at ht'; exact ⟨of, X2 _ _ z, Option.some.inj ht'⟩
    have hsup := ok.at_
    cases hc : PySem.W.clsIn K C with
    | none => unfold ks_superIn at hsup; rw [hc] at hsup; cases hsup
    | some cd =>
      unfold ks_superIn at hsup
      rw [hc] at hsup
      refine PySem.ks_wpAny_getMethod_super so (PySem.W.looks_opaque X2 hst) (l₀ := cd.mro) ?_ rfl X2 hsup hof hofc (PySem.W.ks_ne X2 J2 hc) hm ?_
      · exact fun A Q E s k q => wpAny_bind ((PySem.W.looks_clsIn X2 hc) A _ E s k (wpAny_pure q))
      · have I2 := I1.kept (h' := h1.push { cls := .type "method", data := .fields #[.ref g, .ref x] }) (t' := s.toks + [(ar.arg, Value.ref x)].length + 1) fun b o e => Heap.get?_push_of_some _ e
        refine PySem.W.callWith_M0 (K := K) (g := g) (self := .ref x) ⟨Heap.get?_push_at rfl rfl, I2.kIn⟩ ok.fi ?_
        refine wpAny_call (PySem.ks_codeAny_call_bound (Heap.get?_push_at rfl rfl) ?_)
        refine codeAny_mono (run_fnR (us := [.ref x]) (vs := [.ref x]) F hr' (fun _ _ _ _ _ _ _ z => False.elim z) I2 (.cons rfl .nil) hq) fun r s' z => ?_
        cases r with
        | error e => exact False.elim z
        | ok fl => cases fl with
          | ret u => exact z
          | next => exact False.elim z
          | brk => exact False.elim z
          | cont => exact False.elim z
  refine PySem.ks_wpAt_execs_cons (PySem.ks_wpAt_Return_some (PySem.ks_wpAt_mono fin (fun v s' z => ?_) fun _ _ z => False.elim z))
  obtain ⟨v', H', J', rv, q⟩ := z
  exact ⟨v', H', J'.os, J'.bare, J'.base, J'.hok, rv, q⟩
end
end E

/-! methods found by the object's class; own in -/
namespace E
open PySem PySem.Spec PyProof.Rows L2 He
/-- each class of cs has a def m that keeps sp for its own objects -/
def Disp (P : Program) (w : World) (K : PySem.W.Frag) (mg : Str → Option Value) (base : Heap) (k : Nat) (cs : List Addr) (m : Str) (sp : Sp) : Prop :=
  ∀ C ∈ cs, Cls K C ∧ ∃ g, Meth K C m g ∧ FnR P w K mg base CX0 k g (fun vs H Q Er => ∃ x rest dx fs, vs = .ref x :: rest ∧ H x = some (.ins C dx fs) ∧ sp vs H Q Er)
def tMethD (cs : List Addr) (m : Str) (sp : Sp) (ta : TE) (t : TA) : TE := fun σ H Q => ta σ H fun x H1 => ∃ a C dx fs, x = .ref a ∧ C ∈ cs ∧ H1 a = some (.ins C dx fs) ∧ fs.lookup m = none ∧ t σ H1 fun vs H2 => (∃ dx fs, H2 a = some (.ins C dx fs)) ∧ sp (x :: vs) H2 Q E0
structure OwnIn (K : PySem.W.Frag) (C g : Addr) : Prop where
  at_ : PySem.W.findIn K (.ref C) "__contains__" = some (some (.ref g))
  fn : PySem.W.isFn K (.ref g) = true
/-- x in y | x not in y by the def at g -/
def rOwnIn (K : PySem.W.Frag) (neg : Bool) (g : Addr) (sp : Sp) (Er : XK) : R2 := fun x y H Q => ∃ a C dx fs, y = .ref a ∧ H a = some (.ins C dx fs) ∧ OwnIn K C g ∧ sp [y, x] H (fun v H' => ∃ b, v = .bl b ∧ Q (.bl (b != neg)) H') Er
section
variable {X : Cx} {k j : Nat} {cs : List Addr} {m : Str} {sp : Sp} {o e : Expr} {es : List Expr} {apos pos : Pos} {ta : TE} {t : TA} {pl : Sem Bool} {g : Addr} {Er : XK} {CX : CXT}
theorem pe_methD0 (he : PE X o ta) (D : Disp X.prog X.w X.K X.mg X.base k cs m sp) (hr : Room j X.A) (hk : k ≤ j)
    (ht : eval (.Call (.Attribute o m apos) [] [] pos) X.env = (do
      let ov ← eval o X.env
      standAt apos.atName
      let (f, first) ← holding [ov] (getMethod ov m pl)
      callWith pos f first (backTo pos (starEach [] X.env)) (backToKw pos (keywordEach [] X.env))) := by rfl) :
    PE X (.Call (.Attribute o m apos) [] [] pos) (tMethD cs m sp ta tNil) := by
  refine ⟨fun pins s σ H Q I h => ?_⟩
  refine PySem.W.methodCall_KW (pl := pl) (thn (he.run pins s σ H _ I h) fun u s1 ⟨x, H1, I1, rx, a, C, dx, fs, ex, hC, ea, l, ⟨dx2, fs2, eb⟩, q⟩ => ?_) ht
  subst ex
  obtain rfl : u = Value.ref a := rx
  obtain ⟨c, f, hm, F⟩ := D C hC
  refine getmeth_ok I1 ea c hm l ?_
  exact PySem.W.callWith_K0 (first := [.ref a]) I1.kIn hm.kp (wpAny_call (run_fnR (us := [.ref a]) (vs := [.ref a]) F (hr.mono hk) pass0 I1 (.cons rfl .nil) ⟨a, [], dx, fs, rfl, ea, q⟩))
theorem pe_methD (he : PE X o ta) (D : Disp X.prog X.w X.K X.mg X.base k cs m sp) (hr : Room j X.A) (hk : k ≤ j) (ha : PA X (e :: es) t)
    (hst : starEach (e :: es) X.env = (false, eval e X.env) :: starEach es X.env := by rfl) (hpl : (backTo pos (starEach es X.env)).any (·.1) = false := by rfl)
    (ht : eval (.Call (.Attribute o m apos) (e :: es) [] pos) X.env = (do
      let ov ← eval o X.env
      standAt apos.atName
      let (f, first) ← holding [ov] (getMethod ov m pl)
      callWith pos f first (backTo pos (starEach (e :: es) X.env)) (backToKw pos (keywordEach [] X.env))) := by rfl) :
    PE X (.Call (.Attribute o m apos) (e :: es) [] pos) (tMethD cs m sp ta t) := by
  refine ⟨fun pins s σ H Q I h => ?_⟩
  refine PySem.W.methodCall_KW (pl := pl) (thn (he.run pins s σ H _ I h) fun u s1 ⟨x, H1, I1, rx, a, C, dx, fs, ex, hC, ea, l, q⟩ => ?_) ht
  subst ex
  obtain rfl : u = Value.ref a := rx
  obtain ⟨c, f, hm, F⟩ := D C hC
  refine getmeth_ok I1 ea c hm l ?_
  refine PySem.W.callWith_K (first := [.ref a]) (h₀ := X.base) I.ok.mod.kin hm.kp (thn (ha.run pos pins s1 σ H1 _ I1 q) fun us s2 ⟨vs, H2, I2, r, ⟨dx2, fs2, eb⟩, q2⟩ => ⟨I2.kIn, ?_⟩) hst hpl
  exact wpAny_call (run_fnR (us := .ref a :: us) (vs := .ref a :: vs) F (hr.mono hk) pass0 I2 (.cons rfl r) ⟨a, vs, dx2, fs2, rfl, eb, q2⟩)
theorem op_ownIn (F : FnR X.prog X.w X.K X.mg X.base CX k g sp) (hr : Room k X.A) (hx : Passes CX X Er) : OpR X (compareOp .In) (rOwnIn X.K false g sp Er) := by
  intro pins s σ H x y u v Q I rx ry h
  obtain ⟨a, C, dx, fs, rfl, ha, O, q⟩ := h
  cases (show v = Value.ref a from ry)
  obtain ⟨mA, OM, _⟩ := ins_get I.hok ha
  obtain ⟨od, J, _⟩ := OM.look
  obtain ⟨m, hF⟩ := I.fr
  refine PySem.W.in_K hF I.ok.mod.kin J O.at_ O.fn ?_
  refine wpAny_mono (wpAny_call (SlX.run_at (A := X.A) (us := [.ref a, u]) (ws := [.ref a, x]) F hr I.env0 hx I (.cons rfl (.cons rx .nil)) q)) (fun w s' z => ?_) fun _ _ x => x
  obtain ⟨z', H', I', rz, r, er, qz⟩ := z
  subst er
  obtain rfl : w = Value.bool r := rz
  have e : (r != false) = r := by cases r <;> rfl
  rw [e] at qz
  exact wpAny_truthy_bool ⟨.bl r, H', I', rfl, qz⟩
theorem op_ownNotIn (F : FnR X.prog X.w X.K X.mg X.base CX k g sp) (hr : Room k X.A) (hx : Passes CX X Er) : OpR X (compareOp .NotIn) (rOwnIn X.K true g sp Er) := by
  intro pins s σ H x y u v Q I rx ry h
  obtain ⟨a, C, dx, fs, rfl, ha, O, q⟩ := h
  cases (show v = Value.ref a from ry)
  obtain ⟨mA, OM, _⟩ := ins_get I.hok ha
  obtain ⟨od, J, _⟩ := OM.look
  obtain ⟨m, hF⟩ := I.fr
  refine PySem.W.notIn_K hF I.ok.mod.kin J O.at_ O.fn ?_
  refine wpAny_mono (wpAny_call (SlX.run_at (A := X.A) (us := [.ref a, u]) (ws := [.ref a, x]) F hr I.env0 hx I (.cons rfl (.cons rx .nil)) q)) (fun w s' z => ?_) fun _ _ x => x
  obtain ⟨z', H', I', rz, r, er, qz⟩ := z
  subst er
  obtain rfl : w = Value.bool r := rz
  have e : (r != true) = !r := by cases r <;> rfl
  rw [e] at qz
  exact wpAny_truthy_bool ⟨.bl (!r), H', I', rfl, qz⟩
end
section
variable {K : PySem.W.Frag} {σ : L2.St} {H : Hp} {Q : VK} {ta : TE} {t : TA} {m : Str} {cs : List Addr} {sp : Sp} {f : Str}
theorem g_mD (h : ta σ H fun x H1 => ∃ a C dx fs, x = .ref a ∧ C ∈ cs ∧ H1 a = some (.ins C dx fs) ∧ fs.lookup m = none ∧ t σ H1 fun vs H2 => (∃ dx fs, H2 a = some (.ins C dx fs)) ∧ sp (x :: vs) H2 Q E0) : tMethD cs m sp ta t σ H Q := h
theorem g_cV (h : ta σ H fun x H1 => ∃ C mc v u, x = .ref C ∧ ClX.CRead K C mc ∧ ClX.CVal K C mc f v u ∧ Q v H1) : ClX.tCVal K ta f σ H Q := h
end
/-- C.f is the constant v -/
def cvalB (K : PySem.W.Frag) (C : Addr) (f : Str) (v : V) : Bool := PySem.W.readsIn K C (mcOf K C) && (eqO (PySem.W.specialIn K (.ref C) "__getattribute__") (some (some (.builtin "type.__getattribute__"))) && (match PySem.W.findCls K (.ref C) (mcOf K C) f with
  | some (.val u) => relB v u
  | _ => false))
theorem cvalB_ok {K : PySem.W.Frag} {C : Addr} {f : Str} {v : V} (h : cvalB K C f v = true) : ∃ mc u, ClX.CRead K C mc ∧ ClX.CVal K C mc f v u := by
  obtain ⟨h1, h⟩ := ba h
  obtain ⟨h2, h3⟩ := ba h
  split at h3
  · rename_i u e
    exact ⟨_, u, ⟨h1, eqO_ok h2⟩, ⟨e, relB_ok h3⟩⟩
  · cases h3
def methB (K : PySem.W.Frag) (C : Addr) (m : Str) (g : Addr) : Bool := eqO (PySem.W.findIn K (.ref C) m) (some (some (.ref g))) && (PySem.W.isFn K (.ref g) && PySem.W.keepIn K (.ref g))
theorem methB_ok {K : PySem.W.Frag} {C : Addr} {m : Str} {g : Addr} (h : methB K C m g = true) : Meth K C m g := by
  obtain ⟨h1, h⟩ := ba h
  obtain ⟨h2, h3⟩ := ba h
  exact ⟨eqO_ok h1, h2, h3⟩
def ownInB (K : PySem.W.Frag) (C g : Addr) : Bool := eqO (PySem.W.findIn K (.ref C) "__contains__") (some (some (.ref g))) && PySem.W.isFn K (.ref g)
theorem ownInB_ok {K : PySem.W.Frag} {C g : Addr} (h : ownInB K C g = true) : OwnIn K C g := by
  obtain ⟨h1, h2⟩ := ba h
  exact ⟨eqO_ok h1, h2⟩
def supB (K : PySem.W.Frag) (C D : Addr) (m : Str) (g : Addr) : Bool := decide (PySem.W.ks_superIn K C D m = some (some (.ref g))) && (decide (PySem.W.typeIn K (.ref g) = some (.type "function")) && (PySem.W.fnIn K g && decide (PySem.W.mroIn K C (.ref D) = some true)))
theorem supB_ok {K : PySem.W.Frag} {C D : Addr} {m : Str} {g : Addr} (h : supB K C D m g = true) : SupOk K C D m g := by
  obtain ⟨h1, h⟩ := ba h
  obtain ⟨h2, h⟩ := ba h
  obtain ⟨h3, h4⟩ := ba h
  exact ⟨of_decide_eq_true h1, of_decide_eq_true h2, h3, of_decide_eq_true h4⟩
/-! a method that says super: its function object -/
abbrev FnV : Type := Option (Str × Str × Arguments × FuncBody × Scope × Addr × Addr)
def fnVt (K : PySem.W.Frag) (a : Addr) : FnV := match K.lookup a with
  | some ⟨_, _, .func fd, _⟩ => some (fd.name, fd.qualname, fd.params, fd.body, fd.scope, fd.globals, fd.builtins)
  | _ => none
def cloAd (K : PySem.W.Frag) (a : Addr) : Addr := match K.lookup a with
  | some ⟨_, _, .func fd, _⟩ => (match fd.closure with
    | [(_, c)] => c
    | _ => 0)
  | _ => 0
/-- the closure is the class at D; the code's file is fl -/
def supFB (K : PySem.W.Frag) (a D : Addr) (fl qual : Str) : Bool := (PySem.W.clsIn K D).isSome && (match K.lookup a with
  | some ⟨_, _, .func fd, _⟩ => decide (fd.defaults = Value.none) && ((match fd.closure with
    | [(x, c)] => decide (x = "__class__") && (match K.lookup c with
      | some ⟨_, _, .cell (some (.ref E)), _⟩ => decide (E = D)
      | _ => false)
    | _ => false) && (match fd.code with
    | .ref cda => PySem.W.codeIn K (.ref cda) qual && (match K.lookup cda with
      | some ⟨_, _, .fields vs, _⟩ => (match (vs : Array Value)[2]? with
        | some (Value.str file _) => fl == file
        | _ => false)
      | _ => false)
    | _ => false))
  | _ => false)
/-- what is known of such a method at a -/
structure SupF (K : PySem.W.Frag) (a D : Addr) (fl name qual : Str) (params : Arguments) (body : List Stmt) (scope : Scope) : Prop where
  ex : ∃ (oc kV doc pm ct : Value) (od an : Option Addr) (osl : Array (Option Value)) (cda cc : Addr) (ccl cl : Value) (cdd cld : Option Addr) (vs : Array Value) (ccs csl : Array (Option Value)) (file : Str) (tf : Tok) (cdD : ClassData),
    K.lookup a = some ⟨oc, od, .func (PySem.W.ksFn name qual params body scope .none kV doc pm an (.ref cda) ct cc), osl⟩ ∧ PySem.W.codeIn K (.ref cda) qual = true ∧ K.lookup cda = some ⟨ccl, cdd, .fields vs, ccs⟩ ∧ vs[2]? = some (.str file tf) ∧ (fl == file) = true ∧
    K.lookup cc = some ⟨cl, cld, .cell (some (.ref D)), csl⟩ ∧ PySem.W.clsIn K D = some cdD
theorem supF_of {K : PySem.W.Frag} {a D : Addr} {fl name qual : Str} {params : Arguments} {body : List Stmt} {scope : Scope} (e : fnVt K a = some (name, qual, params, .stmts body, scope, mainGlobals, builtinsNs)) (h : supFB K a D fl qual = true) : SupF K a D fl name qual params body scope := by
  unfold fnVt at e
  obtain ⟨h1, h2⟩ := ba h
  obtain ⟨cdD, hcd⟩ := Option.isSome_iff_exists.mp h1
  cases q : K.lookup a with
  | none => rw [q] at e; cases e
  | some ob =>
    obtain ⟨oc, od, dt, osl⟩ := ob
    rw [q] at e h2
    cases dt with
    | func fd =>
      obtain ⟨n1, n2, n3, n4, n5, n6, n7, n8, n9, n10, n11, n12, n13, n14, n15⟩ := fd
      have e2 : (some (n1, n2, n3, n4, n5, n6, n15) : FnV) = some (name, qual, params, .stmts body, scope, mainGlobals, builtinsNs) := e
      simp only [Option.some.injEq, Prod.mk.injEq] at e2
      obtain ⟨g1, g2, g3, g4, g5, g6, g7⟩ := e2
      subst g1 g2 g3 g4 g5 g6 g7
      obtain ⟨h0, h9⟩ := ba h2
      clear h2
      have e0 : n8 = Value.none := of_decide_eq_true h0
      subst e0
      obtain ⟨h3, h4⟩ := ba h9
      clear h9
      dsimp only at h3 h4
      split at h3
      · rename_i x c
        obtain ⟨h5, h6⟩ := ba h3
        have e5 := of_decide_eq_true h5
        subst e5
        split at h6
        · rename_i cl cld EE csl hc
          have e6 := of_decide_eq_true h6
          subst e6
          split at h4
          · rename_i cda
            obtain ⟨h7, h8⟩ := ba h4
            split at h8
            · rename_i ccl cdd vs ccs hcc
              split at h8
              · rename_i file tf hv
                exact ⟨oc, n9, n10, n11, n14, od, n12, osl, cda, c, ccl, cl, cdd, cld, vs, ccs, csl, file, tf, cdD, q, h7, hcc, hv, h8, hc, hcd⟩
              · cases h8
            · cases h8
          · cases h4
        · cases h6
      · cases h3
    | _ => cases e
end E

/-! the head's facts, with methods that say super -/
namespace E
open PySem PySem.Spec PyProof.Rows L2 He
structure Dw where
  ad : PySem.W.Frag → Addr
  D : PySem.W.Frag → Addr
  name : Str
  qual : Str
  st : Stmt
def Dw.val (d : Dw) : FnV := some (d.name, d.qual, defArgs d.st, .stmts (defBody d.st), defScope d.st, mainGlobals, builtinsNs)
abbrev AlV : Type := Bool × List FnW × List FnV
def obsV (fl : Str) (ex : PySem.W.Frag → Bool) (fn : List Df) (fv : List Dw) (K : PySem.W.Frag) : AlV := (ex K && ((fn.all fun d => d.ok K) && fv.all fun d => supFB K (d.ad K) (d.D K) fl d.qual), fn.map (fun d => fnAt K (d.ad K)), fv.map fun d => fnVt K (d.ad K))
def valV (fn : List Df) (fv : List Dw) : AlV := (true, fn.map Df.val, fv.map Dw.val)
def SaysV (fl : Str) (ex : PySem.W.Frag → Bool) (fn : List Df) (fv : List Dw) (K : PySem.W.Frag) : Prop := obsV fl ex fn fv K = valV fn fv
def obsVG (n : Nat) (fl : Str) (ex : PySem.W.Frag → Bool) (fn : List Df) (fv : List Dw) (g : Addr → Option Obj) : AlV := obsV fl ex fn fv (frG g (PySem.cStatics :: asD g n))
def hookV (n : Nat) (fl : Str) (ex : PySem.W.Frag → Bool) (fn : List Df) (fv : List Dw) : PySem.W.Hook where
  α := AlV
  obs := fun s => obsVG n fl ex fn fv s.heap.get?
  val := fun _ => valV fn fv
  says := fun _ h => ∃ K : PySem.W.Frag, K.In h ∧ SaysV fl ex fn fv K
  of := fun _ _ e => ⟨_, frG_in, e⟩
  keeps := fun _ _ _ ⟨K, hK, c⟩ k => ⟨K, PySem.W.Frag.In.keeps hK k, c⟩
theorem obsVG_eq {n : Nat} {fl : Str} {ex : PySem.W.Frag → Bool} {fn : List Df} {fv : List Dw} {g : Addr → Option Obj} {s : Shared} (h : ∀ a, g a = s.heap.get? a) : obsVG n fl ex fn fv g = (hookV n fl ex fn fv).obs s := by
  have e : g = s.heap.get? := funext h
  rw [e] <;> rfl
section
variable {fl : Str} {ex : PySem.W.Frag → Bool} {fn : List Df} {fv : List Dw} {K : PySem.W.Frag}
theorem SaysV.one (c : SaysV fl ex fn fv K) : (ex K && ((fn.all fun d => d.ok K) && fv.all fun d => supFB K (d.ad K) (d.D K) fl d.qual)) = true := congrArg (fun z : AlV => z.1) c
theorem SaysV.fact (c : SaysV fl ex fn fv K) : ex K = true := (ba c.one).1
theorem SaysV.def_ (c : SaysV fl ex fn fv K) (i : Nat) {d : Df} (h : fn[i]? = some d := by rfl) : ∃ fd, FunD K d.name d.qual (defArgs d.st) (defBody d.st) (defScope d.st) (d.dvs K) (d.kws K) (d.ad K) fd := by
  have c2 := (ba (ba c.one).2).1
  have e : fn.map (fun d => fnAt K (d.ad K)) = fn.map Df.val := congrArg (fun z : AlV => z.2.1) c
  have e2 : (fn.map fun d => fnAt K (d.ad K))[i]? = (fn.map Df.val)[i]? := by rw [e]
  rw [List.getElem?_map, List.getElem?_map, h] at e2
  exact Df.funD (Option.some.inj e2) (List.all_eq_true.mp c2 d (List.mem_of_getElem? h))
theorem SaysV.sup (c : SaysV fl ex fn fv K) (i : Nat) {d : Dw} (h : fv[i]? = some d := by rfl) : SupF K (d.ad K) (d.D K) fl d.name d.qual (defArgs d.st) (defBody d.st) (defScope d.st) := by
  have c2 := (ba (ba c.one).2).2
  have e : fv.map (fun d => fnVt K (d.ad K)) = fv.map Dw.val := congrArg (fun z : AlV => z.2.2) c
  have e2 : (fv.map fun d => fnVt K (d.ad K))[i]? = (fv.map Dw.val)[i]? := by rw [e]
  rw [List.getElem?_map, List.getElem?_map, h] at e2
  exact supF_of (Option.some.inj e2) (List.all_eq_true.mp c2 d (List.mem_of_getElem? h))
end
/-- .. kept -/
theorem SupF.fn {P : Program} {w : World} {K : PySem.W.Frag} {mg : Str → Option Value} {base : Heap} {a D g : Addr} {name qual : Str} {params : Arguments} {scope : Scope} {m : Str} {p0 p1 apos pos rpos : Pos} {ar : Arg} {k : Nat} {sp : Sp} {pl : Addr → Addr → Addr → Sem Bool}
    (Z : SupF K a D P.main.file name qual params [.Return (some (.Call (.Attribute (.Call (.Name "super" p0) [] [] p1) m apos) [] [] pos)) rpos] scope) (S : SupS scope ar.arg) (hp : (params.posonlyargs ++ params.args).head? = some ar)
    (hbind : ∀ (kV doc pm ct : Value) (an : Option Addr) (cda cc : Addr) (u : Value), bindArgs (PySem.W.ksFn name qual params [.Return (some (.Call (.Attribute (.Call (.Name "super" p0) [] [] p1) m apos) [] [] pos)) rpos] scope .none kV doc pm an (.ref cda) ct cc) ⟨[u], []⟩ = pure [(ar.arg, u)])
    (ht : ∀ cda cc L : Addr, eval (.Call (.Attribute (.Call (.Name "super" p0) [] [] p1) m apos) [] [] pos) (PySem.W.ksEnv qual scope L a (.ref cda) cc) = (do
      let ov ← attributeBase (.Call (.Name "super" p0) [] [] p1) m (PySem.W.ksEnv qual scope L a (.ref cda) cc) (eval (.Call (.Name "super" p0) [] [] p1) (PySem.W.ksEnv qual scope L a (.ref cda) cc))
      standAt apos.atName
      let (f2, first) ← holding [ov] (getMethod ov m (pl cda cc L))
      callWith pos f2 first (backTo pos (starEach [] (PySem.W.ksEnv qual scope L a (.ref cda) cc))) []))
    (hmg : mg "super" = none) (htop : (P.main.scope.names.lookup ("super" : Str)).isSome = false) (hst : PySem.W.nsIn K cStatics "thirdparty.any" = some none) (hm : (m == ("__class__" : Str)) = false) (F : FnR P w K mg base CX0 k g sp) :
    FnR P w K mg base CX0 (k + 1) a (fun vs H Q Er => ∃ x C dx fs, vs = [.ref x] ∧ H x = some (.ins C dx fs) ∧ SupOk K C D m g ∧ sp [.ref x] H Q Er) := by
  obtain ⟨oc, kV, doc, pm, ct, od, an, osl, cda, cc, ccl, cl, cdd, cld, vs, ccs, csl, file, tf, cdD, h1, h2, h3, h4, h5, h6, h7⟩ := Z.ex
  exact fnr_super (pl := pl cda cc) S h1 h2 hp (fun s u => .of_eq (hbind kV doc pm ct an cda cc u)) h3 h4 h5 h6 h7 hmg htop hst hm (ht cda cc) F
end E

/-! what the head leaves, told by one Bool -/
namespace E
open PySem PySem.Spec PyProof.Rows L2 He
def kinds : List (Str × Str) := [("Store", "store"), ("Table", "table"), ("Log", "log"), ("Queue", "queue"), ("Answers", "answers"), ("Archive", "archive"), ("Rolling", "rolling")]
def stFields : List Str := ["name", "under", "refs", "fields"]
def cS (K : PySem.W.Frag) : Addr := ga K "Store"
def gI (K : PySem.W.Frag) : Addr := ma K (cS K) "__init__"
def gC (K : PySem.W.Frag) : Addr := ma K (cS K) "__contains__"
def am (x m : Str) (K : PySem.W.Frag) : Addr := ma K (ga K x) m
/-- which kinds are below which -/
def below (w v : Str) : Bool := decide (w = v) || (decide (v = "store") || (decide (w = "rolling") && (decide (v = "answers") || decide (v = "archive"))))
structure Kd (K : PySem.W.Frag) (C : Addr) (w : Str) : Prop where
  cf : ClsF K C
  na : ∀ {f}, f ∈ stFields → NoAttr K C f
  mkr : Mk K C (gI K)
  wd : ∃ u, Con K C "WORD" (.str w) u
  oi : OwnIn K C (gC K)
  cv : ∃ mc u, ClX.CRead K C mc ∧ ClX.CVal K C mc "WORD" (.str w) u
  ac : Meth K C "actions" (ma K C "actions")
  va : Meth K C "vanishes" (ma K C "vanishes")
  co : Meth K C "counts" (ma K C "counts")
def kdB (K : PySem.W.Frag) (C : Addr) (w : Str) : Bool := clsFB K C && (noAtB K C stFields && (mkB K C (gI K) && (conB K C "WORD" (.str w) && (ownInB K C (gC K) && (cvalB K C "WORD" (.str w) && (methB K C "actions" (ma K C "actions") && (methB K C "vanishes" (ma K C "vanishes") && methB K C "counts" (ma K C "counts"))))))))
theorem kdB_ok {K : PySem.W.Frag} {C : Addr} {w : Str} (h : kdB K C w = true) : Kd K C w := by
  obtain ⟨h1, h⟩ := ba h
  obtain ⟨h2, h⟩ := ba h
  obtain ⟨h3, h⟩ := ba h
  obtain ⟨h4, h⟩ := ba h
  obtain ⟨h5, h⟩ := ba h
  obtain ⟨h6, h⟩ := ba h
  obtain ⟨h7, h⟩ := ba h
  obtain ⟨h8, h9⟩ := ba h
  exact ⟨clsFB_ok h1, fun hf => noAtB_ok h2 hf, mkB_ok h3, conB_ok h4, ownInB_ok h5, cvalB_ok h6, methB_ok h7, methB_ok h8, methB_ok h9⟩
def gloNames : List Str := ["Store", "Table", "Log", "Queue", "Answers", "Archive", "Rolling", "BadName", "Twice", "TooMany"]
def statB (K : PySem.W.Frag) (C : Addr) (m : Str) : Bool := PySem.W.readsIn K C (mcOf K C) && (eqO (PySem.W.specialIn K (.ref C) "__getattribute__") (some (some (.builtin "type.__getattribute__"))) && (PySem.W.keepIn K (.ref (stAd K C m)) &&
  (match PySem.W.findCls K (.ref C) (mcOf K C) m with
  | some (.get (.builtin b) (.ref p) .none (.ref D)) => decide (b = "staticmethod.__get__") && (decide (D = C) && (match PySem.W.recIn K p "staticmethod" with
    | some (.ref _ :: _) => true
    | _ => false))
  | some (.val (.ref _)) => true
  | _ => false)))
theorem statB_ok {K : PySem.W.Frag} {C : Addr} {m : Str} (h : statB K C m = true) : Stat K C (mcOf K C) m (stAd K C m) := by
  obtain ⟨h1, h⟩ := ba h
  obtain ⟨h2, h⟩ := ba h
  obtain ⟨h3, h4⟩ := ba h
  refine ⟨h1, eqO_ok h2, ?_, h3⟩
  unfold stAd
  split at h4
  · rename_i b p D e
    obtain ⟨h5, h6⟩ := ba h4
    obtain ⟨h7, h8⟩ := ba h6
    have e5 := of_decide_eq_true h5
    have e7 := of_decide_eq_true h7
    subst e5 e7
    split at h8
    · rename_i g rest e2
      rw [e]
      dsimp only
      rw [e2]
      exact Or.inl ⟨p, rfl, rest, e2⟩
    · cases h8
  · rename_i g e
    rw [e]
    exact Or.inr rfl
  · cases h4
structure Tx (K : PySem.W.Frag) (mg : Str → Option Value) : Prop extends Txt K mg where
  gl : ∀ (i : Nat) {x : Str}, gloNames[i]? = some x → mg x = some (.ref (ga K x))
  kd : ∀ q ∈ kinds, Kd K (ga K q.1) q.2
  ki : ∀ q ∈ kinds, ∀ r ∈ kinds, PySem.W.kitOne K (.ref (ga K q.1)) (.ref (ga K r.1)) = some (below q.2 r.2)
  inj : ∀ q ∈ kinds, ∀ r ∈ kinds, ga K q.1 = ga K r.1 → q = r
  s1 : SupOk K (ga K "Table") (ga K "Table") "actions" (am "Store" "actions" K)
  s2 : SupOk K (ga K "Rolling") (ga K "Rolling") "actions" (am "Archive" "actions" K)
  s3 : SupOk K (ga K "Rolling") (ga K "Rolling") "counts" (am "Archive" "counts" K)
  st : Stat K (ga K "Answers") (mcOf K (ga K "Answers")) "vanishes" (stAd K (ga K "Answers") "vanishes")
  se : stAd K (ga K "Answers") "vanishes" = am "Answers" "vanishes" K
  su : mg "super" = none
  tp : PySem.W.nsIn K cStatics "thirdparty.any" = some none
def exB (K : PySem.W.Frag) : Bool := (freeNames.all fun x => (Fa.free x).ok K) && (((Fa.str "LETTERS" "abcdefghijklmnopqrstuvwxyz").ok K && ((Fa.int "MOST" 8).ok K && (Fa.int "MOST_PARTS" 3).ok K)) &&
  ((gloNames.all fun x => (Fa.glo x).ok K) && ((kinds.all fun q => kdB K (ga K q.1) q.2) && ((kinds.all fun q => kinds.all fun r => decide (PySem.W.kitOne K (.ref (ga K q.1)) (.ref (ga K r.1)) = some (below q.2 r.2)) && (!decide (ga K q.1 = ga K r.1) || decide (q = r))) &&
  ((supB K (ga K "Table") (ga K "Table") "actions" (am "Store" "actions" K) && (supB K (ga K "Rolling") (ga K "Rolling") "actions" (am "Archive" "actions" K) && supB K (ga K "Rolling") (ga K "Rolling") "counts" (am "Archive" "counts" K))) &&
  (statB K (ga K "Answers") "vanishes" && (decide (stAd K (ga K "Answers") "vanishes" = am "Answers" "vanishes" K) && ((Fa.free "super").ok K && eqO (PySem.W.nsIn K cStatics "thirdparty.any") (some none)))))))))
theorem exB_ok {K : PySem.W.Frag} {h : Heap} {mg : Str → Option Value} (X : K.In h) (G : h.Ns mainGlobals mg) (e : exB K = true) : Tx K mg := by
  obtain ⟨a1, e⟩ := ba e
  obtain ⟨a2, e⟩ := ba e
  obtain ⟨b1, a2⟩ := ba a2
  obtain ⟨b2, b3⟩ := ba a2
  obtain ⟨a3, e⟩ := ba e
  obtain ⟨a4, e⟩ := ba e
  obtain ⟨a5, e⟩ := ba e
  obtain ⟨a6, e⟩ := ba e
  obtain ⟨c1, a6⟩ := ba a6
  obtain ⟨c2, c3⟩ := ba a6
  obtain ⟨d1, e⟩ := ba e
  obtain ⟨d2, e⟩ := ba e
  obtain ⟨d3, d4⟩ := ba e
  have si : ∀ {x : Str} {i : Int}, (Fa.int x i).ok K = true → ∃ u, mg x = some u ∧ RelV (.int i) u := fun h => by
    obtain ⟨t, z⟩ := int_ok X G h
    exact ⟨_, z, t, rfl⟩
  have pr := fun q hq r hr => ba (List.all_eq_true.mp (List.all_eq_true.mp a5 q hq) r hr)
  refine ⟨⟨fun i x hx => free_ok X G (List.all_eq_true.mp a1 x (List.mem_of_getElem? hx)), ?_, si b2, si b3⟩, fun i x hx => glo_ok X G (List.all_eq_true.mp a3 x (List.mem_of_getElem? hx)), fun q hq => kdB_ok (List.all_eq_true.mp a4 q hq),
    fun q hq r hr => of_decide_eq_true (pr q hq r hr).1, fun q hq r hr z => ?_, supB_ok c1, supB_ok c2, supB_ok c3, statB_ok d1, of_decide_eq_true d2, free_ok X G d3, eqO_ok d4⟩
  · obtain ⟨t, z⟩ := str_ok X G b1
    exact ⟨_, z, t, rfl⟩
  · rcases Bool.or_eq_true_iff.mp (pr q hq r hr).2 with h | h
    · rw [Bool.not_eq_true', decide_eq_false_iff_not] at h
      exact absurd z h
    · exact of_decide_eq_true h
end E

/-! stores and holds: what is promised -/
namespace E
open PySem PySem.Spec PyProof.Rows L2 He Evl
def bV : Option Str → V
  | none => .non
  | some x => .str x
/-- a store's parts -/
structure SD where
  w : Str
  n : Str
  b : Option Str
  es : List Str
  ps : List Str
def PartsOk (ws : List Str) : Prop := (∀ x ∈ ws, nmS x = true ∧ x ≠ "up") ∧ ws.Nodup
structure SOk (s : SD) : Prop where
  w : ∃ k ∈ kinds, k.2 = s.w
  n : nmS s.n = true
  b : ∀ x, s.b = some x → nmS x = true
  p : PartsOk (s.es ++ s.ps)
  le : s.es.length ≤ 3
  lp : s.ps.length ≤ 3
/-- .. as a tuple -/
def StT (K : PySem.W.Frag) (G : Hp) (a : Addr) (s : SD) : Prop := ∃ p q, SqT K G a [.str s.w, .str s.n, bV s.b, .ref p, .ref q] ∧ SqT K G p (s.es.map V.str) ∧ SqT K G q (s.ps.map V.str)
def stF (s : SD) (p q : Addr) : List (Str × V) := [("name", .str s.n), ("under", bV s.b), ("refs", .ref p), ("fields", .ref q)]
/-- .. as an object -/
def StO (K : PySem.W.Frag) (G : Hp) (x : Addr) (s : SD) : Prop := ∃ k dx p q, SOk s ∧ k ∈ kinds ∧ k.2 = s.w ∧ G x = some (.ins (ga K k.1) dx (stF s p q)) ∧ SqT K G p (s.es.map V.str) ∧ SqT K G q (s.ps.map V.str)
theorem StT.mono {K : PySem.W.Frag} {G G' : Hp} {a : Addr} {s : SD} (e : Ex G G') (h : StT K G a s) : StT K G' a s := by
  obtain ⟨p, q, h1, h2, h3⟩ := h
  exact ⟨p, q, ex_t e h1, ex_t e h2, ex_t e h3⟩
theorem StO.mono {K : PySem.W.Frag} {G G' : Hp} {a : Addr} {s : SD} (e : Ex G G') (h : StO K G a s) : StO K G' a s := by
  obtain ⟨k, dx, p, q, o, h0, h1, h2, h3, h4⟩ := h
  exact ⟨k, dx, p, q, o, h0, h1, e _ _ h2, ex_t e h3, ex_t e h4⟩
def spInit (K : PySem.W.Frag) : Sp := fun vs H Q _ => ∃ (x C dx p q : Addr) (M : MM) (G : Hp) (s : SD), vs = [.ref x, .str s.n, bV s.b, .ref p, .ref q] ∧ Vw ((x, (· = .ins C dx [])) :: M) G H ∧ (∃ w, Kd K C w) ∧ SOk s ∧ SqT K G p (s.es.map V.str) ∧ SqT K G q (s.ps.map V.str) ∧
  ∀ H', Vw ((x, (· = .ins C dx (stF s p q))) :: M) G H' → Q .non H'
def spInitK (K : PySem.W.Frag) : List V → List V → Hp → VK → XK → Prop := fun vs zs H Q E => vs.length = 2 ∧ spInit K (vs ++ zs) H Q E
def spMade (K : PySem.W.Frag) : Sp := fun vs H Q _ => ∃ (a : Addr) (M : MM) (G : Hp) (s : SD), vs = [.ref a] ∧ Vw M G H ∧ StT K G a s ∧ SOk s ∧ ∀ x G' H', Ex G G' → StO K G' x s → Vw M G' H' → Q (.ref x) H'
/-! this law's own -/
def kindCs (K : PySem.W.Frag) : List Addr := kinds.map fun k => ga K k.1
def acts (w : Str) : List Str := if w = "store" ∨ w = "table" then ["blank", "change", "cut", "delete", "drop"] else if w = "log" then ["blank", "cut"] else if w = "queue" ∨ w = "answers" then ["delete", "drop"] else ["drop"]
def van (w : Str) : Bool := decide (w = "answers" ∨ w = "rolling")
def cnt (w : Str) : Bool := !decide (w = "archive" ∨ w = "rolling")
def spActs (l : List Str) : Sp := fun vs H Q _ => ∃ v, vs = [v] ∧ mkL Q (l.map V.str) H
def spB (b : Bool) : Sp := fun vs H Q _ => ∃ v, vs = [v] ∧ Q (.bl b) H
def spBK (b : Bool) : List V → List V → Hp → VK → XK → Prop := fun vs zs H Q E => zs = [] ∧ spB b vs H Q E
def spMActs (K : PySem.W.Frag) : Sp := fun vs H Q _ => ∃ x k dx fs, vs = [.ref x] ∧ k ∈ kinds ∧ H x = some (.ins (ga K k.1) dx fs) ∧ mkL Q ((acts k.2).map V.str) H
def spMB (K : PySem.W.Frag) (f : Str → Bool) : Sp := fun vs H Q _ => ∃ x k dx fs, vs = [.ref x] ∧ k ∈ kinds ∧ H x = some (.ins (ga K k.1) dx fs) ∧ Q (.bl (f k.2)) H
def inA (w : Str) : V → Bool
  | .str y => decide (y ∈ acts w)
  | _ => false
def spContains (K : PySem.W.Frag) : Sp := fun vs H Q _ => ∃ (x : Addr) (v : V) (M : MM) (G : Hp) (s : SD), vs = [.ref x, v] ∧ Vw M G H ∧ StO K G x s ∧ DatV K G v ∧ ∀ H', Vw M G H' → Q (.bl (inA s.w v)) H'
def spTold : Sp := fun vs H Q _ => ∃ (M : MM) (G : Hp), vs = [] ∧ Vw M G H ∧ ∀ p G' H', Ex G G' → G' p = some (.lst (kinds.map fun k => V.str k.2)) → Vw M G' H' → Q (.ref p) H'
def spLActs : Sp := fun vs H Q _ => ∃ (w : Str) (M : MM) (G : Hp), vs = [.str w] ∧ Vw M G H ∧ (∃ k ∈ kinds, k.2 = w) ∧ ∀ p G' H', Ex G G' → G' p = some (.lst ((acts w).map V.str)) → Vw M G' H' → Q (.ref p) H'
def spClasses (K : PySem.W.Frag) : Sp := fun vs H Q _ => ∃ (x : Addr) (M : MM) (G : Hp) (s : SD), vs = [.ref x] ∧ Vw M G H ∧ StO K G x s ∧ ∀ p G' H', Ex G G' → G' p = some (.lst (kinds.map fun k => V.bl (below s.w k.2))) → Vw M G' H' → Q (.ref p) H'
def spDueC (K : PySem.W.Frag) : Sp := fun vs H Q _ => ∃ (w : Str) (l : Addr) (M : MM) (G : Hp), vs = [.str w, .ref l] ∧ Vw M G H ∧ SqL K G l (kinds.map fun k => V.str k.2) ∧ ∀ p G' H', Ex G G' → G' p = some (.lst (kinds.map fun k => V.bl (below w k.2))) → Vw M G' H' → Q (.ref p) H'
def spRight (K : PySem.W.Frag) : Sp := fun vs H Q _ => ∃ (b l : Addr) (w : Str) (n : Nat) (M : MM) (G : Hp), vs = [.ref b, .str w, .ref l] ∧ Vw ((b, BagO (n + 17)) :: M) G H ∧ (∃ k ∈ kinds, k.2 = w) ∧ SqL K G l (kinds.map fun k => V.str k.2) ∧ ∀ H', Vw ((b, BagO n) :: M) G H' → Q (.bl true) H'
def spLaw (K : PySem.W.Frag) : Sp := fun vs H Q _ => ∃ (a : Addr) (ns : List Int), vs = [.ref a] ∧ SqL K H a (ns.map V.int) ∧ ∀ H', Q (.bl true) H'
theorem units1 {j : Nat} {A : Around} (hr : Room j A) : A.units + 1 < cLine := by
  have := hr.units
  omega
end E

namespace E
open PySem PySem.Spec PyProof.Rows L2 Evl SX StX He
abbrev s_Storex_initx : Stmt := inClass (top 14) 1
abbrev N_Storex_initx : List Str := ["self", "name", "under", "refs", "fields"]
abbrev p_Storex_initx : List Str := ["self", "name", "under", "refs", "fields"]
theorem sc_Storex_initx : FnScope N_Storex_initx p_Storex_initx (defScope s_Storex_initx) := ⟨rfl, rfl, rfl, by decide +kernel, rfl, by decide +kernel, by decide +kernel⟩
def t_Storex_initx_6 (P : Program) (w : World) (K : PySem.W.Frag) : TS :=
 (tIfS (tOr (tTest (tOp rGtI (tCB (rLen K) (tCons (tFld K (tVar 0) "refs") tNil)) (tC (V.int 3)))) (tTest (tOp rGtI (tCB (rLen K) (tCons (tFld K (tVar 0) "fields") tNil)) (tC (V.int 3))))) tNever tNext)
def t_Storex_initx_5 (P : Program) (w : World) (K : PySem.W.Frag) : TS :=
 (tSeq (tDrop (tCall (spLookOnce K) [] E0 (tCons (tLst (tStar K (tFld K (tVar 0) "refs") (tStar K (tFld K (tVar 0) "fields") tNil))) tNil)))
 (t_Storex_initx_6 P w K))
def t_Storex_initx_4 (P : Program) (w : World) (K : PySem.W.Frag) : TS :=
 (tSeq (sFld K (tVar 0) (tCall (spLookParts K) [] E0 (tCons (tVar 4) tNil)) "fields")
 (t_Storex_initx_5 P w K))
def t_Storex_initx_3 (P : Program) (w : World) (K : PySem.W.Frag) : TS :=
 (tSeq (sFld K (tVar 0) (tCall (spLookParts K) [] E0 (tCons (tVar 3) tNil)) "refs")
 (t_Storex_initx_4 P w K))
def t_Storex_initx_2 (P : Program) (w : World) (K : PySem.W.Frag) : TS :=
 (tSeq (sFld K (tVar 0) (tVar 2) "under")
 (t_Storex_initx_3 P w K))
def t_Storex_initx_1 (P : Program) (w : World) (K : PySem.W.Frag) : TS :=
 (tSeq (tIfS (tTest (tOp rNotNon (tVar 2) (tC V.non))) (tDrop (tCall spLookName [] E0 (tCons (tVar 2) tNil))) tNext)
 (t_Storex_initx_2 P w K))
def t_Storex_initx (P : Program) (w : World) (K : PySem.W.Frag) : TS :=
 (tSeq (sFld K (tVar 0) (tCall spLookName [] E0 (tCons (tVar 1) tNil)) "name")
 (t_Storex_initx_1 P w K))

section
variable {P : Program} {w : World} {K : PySem.W.Frag} {mg : Str → Option Value} {base : Heap}
theorem o_Storex_initx (T : Tx K mg) (c_look_name : Cal P w K mg base 2 "look_name" spLookName []) (c_look_parts : Cal P w K mg base 3 "look_parts" (spLookParts K) []) (c_look_once : Cal P w K mg base 1 "look_once" (spLookOnce K) []) {dvs : List V} {kws : List (Str × V)} {f : Addr} {fd : FuncData} (F : FunD K "__init__" "Store.__init__" (defArgs s_Storex_initx) (defBody s_Storex_initx) (defScope s_Storex_initx) dvs kws f fd)
    (pure : ∀ vs H Q (E : XK), (spInit K) vs H Q E → t_Storex_initx P w K { nx := fun _ H' => Q .non H', rt := Q } (L2.start N_Storex_initx vs) H) (len : ∀ vs H Q E, (spInit K) vs H Q E → vs.length = 5) : FnOk P w K mg base CX0 4 f fd p_Storex_initx (spInit K) :=
  F.ok sc_Storex_initx len fun cdv A outer s H vs Q E hr h => ⟨t_Storex_initx P w K, PSs.nox (by
    unfold t_Storex_initx t_Storex_initx_1 t_Storex_initx_2 t_Storex_initx_3 t_Storex_initx_4 t_Storex_initx_5 t_Storex_initx_6
    exact (pss_cons (ps_fld (pv 0) (pe_c c_look_name hr (by decide) rfl (pa_cons (pv 1) pa_nil)) rfl)
 (pss_cons (ps_if (pt_cmpR op_notN (pv 2) pe_non (nomark _)) (pss_one (ps_expr (pe_c c_look_name hr (by decide) rfl (pa_cons (pv 2) pa_nil)))) pss_nil)
 (pss_cons (ps_fld (pv 0) (pv 2) rfl)
 (pss_cons (ps_fld (pv 0) (pe_c c_look_parts hr (by decide) rfl (pa_cons (pv 3) pa_nil)) rfl)
 (pss_cons (ps_fld (pv 0) (pe_c c_look_parts hr (by decide) rfl (pa_cons (pv 4) pa_nil)) rfl)
 (pss_cons (ps_expr (pe_c c_look_once hr (by decide) rfl (pa_cons (pe_lst (pa_star (pe_fld (pv 0) rfl) (pa_star (pe_fld (pv 0) rfl) pa_nil))) pa_nil)))
 (pss_one (ps_if (PW.pt (pw_or (pt_cmpR op_gt (pe_callB call_lenR rfl (T.fr 1 rfl) (by decide +kernel) (pa_cons (pe_fld (pv 0) rfl) pa_nil)) (pe_gc rfl T.parts) (nomark _)) (pw_or1 (pt_cmpR op_gt (pe_callB call_lenR rfl (T.fr 1 rfl) (by decide +kernel) (pa_cons (pe_fld (pv 0) rfl) pa_nil)) (pe_gc rfl T.parts) (nomark _))))) (pss_one ps_never) pss_nil))))))))), pure vs H Q E h⟩
end

abbrev s_Store_actions : Stmt := inClass (top 14) 2
abbrev N_Store_actions : List Str := ["self"]
abbrev p_Store_actions : List Str := ["self"]
theorem sc_Store_actions : FnScope N_Store_actions p_Store_actions (defScope s_Store_actions) := ⟨rfl, rfl, rfl, by decide +kernel, rfl, by decide +kernel, by decide +kernel⟩
def t_Store_actions (P : Program) (w : World) (K : PySem.W.Frag) : TS :=
 (tRet (tLst (tCons (tC (V.str "blank")) (tCons (tC (V.str "change")) (tCons (tC (V.str "cut")) (tCons (tC (V.str "delete")) (tCons (tC (V.str "drop")) tNil)))))))

section
variable {P : Program} {w : World} {K : PySem.W.Frag} {mg : Str → Option Value} {base : Heap}
theorem o_Store_actions (T : Tx K mg) {dvs : List V} {kws : List (Str × V)} {f : Addr} {fd : FuncData} (F : FunD K "actions" "Store.actions" (defArgs s_Store_actions) (defBody s_Store_actions) (defScope s_Store_actions) dvs kws f fd)
    (pure : ∀ vs H Q (E : XK), (spActs ["blank", "change", "cut", "delete", "drop"]) vs H Q E → t_Store_actions P w K { nx := fun _ H' => Q .non H', rt := Q } (L2.start N_Store_actions vs) H) (len : ∀ vs H Q E, (spActs ["blank", "change", "cut", "delete", "drop"]) vs H Q E → vs.length = 1) : FnOk P w K mg base CX0 1 f fd p_Store_actions (spActs ["blank", "change", "cut", "delete", "drop"]) :=
  F.ok sc_Store_actions len fun cdv A outer s H vs Q E hr h => ⟨t_Store_actions P w K, PSs.nox (by
    unfold t_Store_actions
    exact (pss_one (ps_ret (pe_lst (pa_cons pe_str (pa_cons pe_str (pa_cons pe_str (pa_cons pe_str (pa_cons pe_str pa_nil))))))))), pure vs H Q E h⟩
end

abbrev s_Log_actions : Stmt := inClass (top 16) 1
abbrev N_Log_actions : List Str := ["self"]
abbrev p_Log_actions : List Str := ["self"]
theorem sc_Log_actions : FnScope N_Log_actions p_Log_actions (defScope s_Log_actions) := ⟨rfl, rfl, rfl, by decide +kernel, rfl, by decide +kernel, by decide +kernel⟩
def t_Log_actions (P : Program) (w : World) (K : PySem.W.Frag) : TS :=
 (tRet (tLst (tCons (tC (V.str "blank")) (tCons (tC (V.str "cut")) tNil))))

section
variable {P : Program} {w : World} {K : PySem.W.Frag} {mg : Str → Option Value} {base : Heap}
theorem o_Log_actions (T : Tx K mg) {dvs : List V} {kws : List (Str × V)} {f : Addr} {fd : FuncData} (F : FunD K "actions" "Log.actions" (defArgs s_Log_actions) (defBody s_Log_actions) (defScope s_Log_actions) dvs kws f fd)
    (pure : ∀ vs H Q (E : XK), (spActs ["blank", "cut"]) vs H Q E → t_Log_actions P w K { nx := fun _ H' => Q .non H', rt := Q } (L2.start N_Log_actions vs) H) (len : ∀ vs H Q E, (spActs ["blank", "cut"]) vs H Q E → vs.length = 1) : FnOk P w K mg base CX0 1 f fd p_Log_actions (spActs ["blank", "cut"]) :=
  F.ok sc_Log_actions len fun cdv A outer s H vs Q E hr h => ⟨t_Log_actions P w K, PSs.nox (by
    unfold t_Log_actions
    exact (pss_one (ps_ret (pe_lst (pa_cons pe_str (pa_cons pe_str pa_nil)))))), pure vs H Q E h⟩
end

abbrev s_Queue_actions : Stmt := inClass (top 17) 1
abbrev N_Queue_actions : List Str := ["self"]
abbrev p_Queue_actions : List Str := ["self"]
theorem sc_Queue_actions : FnScope N_Queue_actions p_Queue_actions (defScope s_Queue_actions) := ⟨rfl, rfl, rfl, by decide +kernel, rfl, by decide +kernel, by decide +kernel⟩
def t_Queue_actions (P : Program) (w : World) (K : PySem.W.Frag) : TS :=
 (tRet (tLst (tCons (tC (V.str "delete")) (tCons (tC (V.str "drop")) tNil))))

section
variable {P : Program} {w : World} {K : PySem.W.Frag} {mg : Str → Option Value} {base : Heap}
theorem o_Queue_actions (T : Tx K mg) {dvs : List V} {kws : List (Str × V)} {f : Addr} {fd : FuncData} (F : FunD K "actions" "Queue.actions" (defArgs s_Queue_actions) (defBody s_Queue_actions) (defScope s_Queue_actions) dvs kws f fd)
    (pure : ∀ vs H Q (E : XK), (spActs ["delete", "drop"]) vs H Q E → t_Queue_actions P w K { nx := fun _ H' => Q .non H', rt := Q } (L2.start N_Queue_actions vs) H) (len : ∀ vs H Q E, (spActs ["delete", "drop"]) vs H Q E → vs.length = 1) : FnOk P w K mg base CX0 1 f fd p_Queue_actions (spActs ["delete", "drop"]) :=
  F.ok sc_Queue_actions len fun cdv A outer s H vs Q E hr h => ⟨t_Queue_actions P w K, PSs.nox (by
    unfold t_Queue_actions
    exact (pss_one (ps_ret (pe_lst (pa_cons pe_str (pa_cons pe_str pa_nil)))))), pure vs H Q E h⟩
end

abbrev s_Answers_actions : Stmt := inClass (top 18) 1
abbrev N_Answers_actions : List Str := ["self"]
abbrev p_Answers_actions : List Str := ["self"]
theorem sc_Answers_actions : FnScope N_Answers_actions p_Answers_actions (defScope s_Answers_actions) := ⟨rfl, rfl, rfl, by decide +kernel, rfl, by decide +kernel, by decide +kernel⟩
def t_Answers_actions (P : Program) (w : World) (K : PySem.W.Frag) : TS :=
 (tRet (tLst (tCons (tC (V.str "delete")) (tCons (tC (V.str "drop")) tNil))))

section
variable {P : Program} {w : World} {K : PySem.W.Frag} {mg : Str → Option Value} {base : Heap}
theorem o_Answers_actions (T : Tx K mg) {dvs : List V} {kws : List (Str × V)} {f : Addr} {fd : FuncData} (F : FunD K "actions" "Answers.actions" (defArgs s_Answers_actions) (defBody s_Answers_actions) (defScope s_Answers_actions) dvs kws f fd)
    (pure : ∀ vs H Q (E : XK), (spActs ["delete", "drop"]) vs H Q E → t_Answers_actions P w K { nx := fun _ H' => Q .non H', rt := Q } (L2.start N_Answers_actions vs) H) (len : ∀ vs H Q E, (spActs ["delete", "drop"]) vs H Q E → vs.length = 1) : FnOk P w K mg base CX0 1 f fd p_Answers_actions (spActs ["delete", "drop"]) :=
  F.ok sc_Answers_actions len fun cdv A outer s H vs Q E hr h => ⟨t_Answers_actions P w K, PSs.nox (by
    unfold t_Answers_actions
    exact (pss_one (ps_ret (pe_lst (pa_cons pe_str (pa_cons pe_str pa_nil)))))), pure vs H Q E h⟩
end

abbrev s_Archive_actions : Stmt := inClass (top 19) 1
abbrev N_Archive_actions : List Str := ["self"]
abbrev p_Archive_actions : List Str := ["self"]
theorem sc_Archive_actions : FnScope N_Archive_actions p_Archive_actions (defScope s_Archive_actions) := ⟨rfl, rfl, rfl, by decide +kernel, rfl, by decide +kernel, by decide +kernel⟩
def t_Archive_actions (P : Program) (w : World) (K : PySem.W.Frag) : TS :=
 (tRet (tLst (tCons (tC (V.str "drop")) tNil)))

section
variable {P : Program} {w : World} {K : PySem.W.Frag} {mg : Str → Option Value} {base : Heap}
theorem o_Archive_actions (T : Tx K mg) {dvs : List V} {kws : List (Str × V)} {f : Addr} {fd : FuncData} (F : FunD K "actions" "Archive.actions" (defArgs s_Archive_actions) (defBody s_Archive_actions) (defScope s_Archive_actions) dvs kws f fd)
    (pure : ∀ vs H Q (E : XK), (spActs ["drop"]) vs H Q E → t_Archive_actions P w K { nx := fun _ H' => Q .non H', rt := Q } (L2.start N_Archive_actions vs) H) (len : ∀ vs H Q E, (spActs ["drop"]) vs H Q E → vs.length = 1) : FnOk P w K mg base CX0 1 f fd p_Archive_actions (spActs ["drop"]) :=
  F.ok sc_Archive_actions len fun cdv A outer s H vs Q E hr h => ⟨t_Archive_actions P w K, PSs.nox (by
    unfold t_Archive_actions
    exact (pss_one (ps_ret (pe_lst (pa_cons pe_str pa_nil))))), pure vs H Q E h⟩
end

abbrev s_Store_vanishes : Stmt := inClass (top 14) 3
abbrev N_Store_vanishes : List Str := ["self"]
abbrev p_Store_vanishes : List Str := ["self"]
theorem sc_Store_vanishes : FnScope N_Store_vanishes p_Store_vanishes (defScope s_Store_vanishes) := ⟨rfl, rfl, rfl, by decide +kernel, rfl, by decide +kernel, by decide +kernel⟩
def t_Store_vanishes (P : Program) (w : World) (K : PySem.W.Frag) : TS :=
 (tRet (tC (V.bl false)))

section
variable {P : Program} {w : World} {K : PySem.W.Frag} {mg : Str → Option Value} {base : Heap}
theorem o_Store_vanishes (T : Tx K mg) {dvs : List V} {kws : List (Str × V)} {f : Addr} {fd : FuncData} (F : FunD K "vanishes" "Store.vanishes" (defArgs s_Store_vanishes) (defBody s_Store_vanishes) (defScope s_Store_vanishes) dvs kws f fd)
    (pure : ∀ vs H Q (E : XK), (spB false) vs H Q E → t_Store_vanishes P w K { nx := fun _ H' => Q .non H', rt := Q } (L2.start N_Store_vanishes vs) H) (len : ∀ vs H Q E, (spB false) vs H Q E → vs.length = 1) : FnOk P w K mg base CX0 1 f fd p_Store_vanishes (spB false) :=
  F.ok sc_Store_vanishes len fun cdv A outer s H vs Q E hr h => ⟨t_Store_vanishes P w K, PSs.nox (by
    unfold t_Store_vanishes
    exact (pss_one (ps_ret pe_bl))), pure vs H Q E h⟩
end

abbrev s_Table_vanishes : Stmt := inClass (top 15) 2
abbrev N_Table_vanishes : List Str := ["self"]
abbrev p_Table_vanishes : List Str := ["self"]
theorem sc_Table_vanishes : FnScope N_Table_vanishes p_Table_vanishes (defScope s_Table_vanishes) := ⟨rfl, rfl, rfl, by decide +kernel, rfl, by decide +kernel, by decide +kernel⟩
def t_Table_vanishes (P : Program) (w : World) (K : PySem.W.Frag) : TS :=
 (tRet (tC (V.bl false)))

section
variable {P : Program} {w : World} {K : PySem.W.Frag} {mg : Str → Option Value} {base : Heap}
theorem o_Table_vanishes (T : Tx K mg) {dvs : List V} {kws : List (Str × V)} {f : Addr} {fd : FuncData} (F : FunD K "vanishes" "Table.vanishes" (defArgs s_Table_vanishes) (defBody s_Table_vanishes) (defScope s_Table_vanishes) dvs kws f fd)
    (pure : ∀ vs H Q (E : XK), (spB false) vs H Q E → t_Table_vanishes P w K { nx := fun _ H' => Q .non H', rt := Q } (L2.start N_Table_vanishes vs) H) (len : ∀ vs H Q E, (spB false) vs H Q E → vs.length = 1) : FnOk P w K mg base CX0 1 f fd p_Table_vanishes (spB false) :=
  F.ok sc_Table_vanishes len fun cdv A outer s H vs Q E hr h => ⟨t_Table_vanishes P w K, PSs.nox (by
    unfold t_Table_vanishes
    exact (pss_one (ps_ret pe_bl))), pure vs H Q E h⟩
end

abbrev s_Log_vanishes : Stmt := inClass (top 16) 2
abbrev N_Log_vanishes : List Str := ["self"]
abbrev p_Log_vanishes : List Str := ["self"]
theorem sc_Log_vanishes : FnScope N_Log_vanishes p_Log_vanishes (defScope s_Log_vanishes) := ⟨rfl, rfl, rfl, by decide +kernel, rfl, by decide +kernel, by decide +kernel⟩
def t_Log_vanishes (P : Program) (w : World) (K : PySem.W.Frag) : TS :=
 (tRet (tC (V.bl false)))

section
variable {P : Program} {w : World} {K : PySem.W.Frag} {mg : Str → Option Value} {base : Heap}
theorem o_Log_vanishes (T : Tx K mg) {dvs : List V} {kws : List (Str × V)} {f : Addr} {fd : FuncData} (F : FunD K "vanishes" "Log.vanishes" (defArgs s_Log_vanishes) (defBody s_Log_vanishes) (defScope s_Log_vanishes) dvs kws f fd)
    (pure : ∀ vs H Q (E : XK), (spB false) vs H Q E → t_Log_vanishes P w K { nx := fun _ H' => Q .non H', rt := Q } (L2.start N_Log_vanishes vs) H) (len : ∀ vs H Q E, (spB false) vs H Q E → vs.length = 1) : FnOk P w K mg base CX0 1 f fd p_Log_vanishes (spB false) :=
  F.ok sc_Log_vanishes len fun cdv A outer s H vs Q E hr h => ⟨t_Log_vanishes P w K, PSs.nox (by
    unfold t_Log_vanishes
    exact (pss_one (ps_ret pe_bl))), pure vs H Q E h⟩
end

abbrev s_Queue_vanishes : Stmt := inClass (top 17) 2
abbrev N_Queue_vanishes : List Str := ["self"]
abbrev p_Queue_vanishes : List Str := ["self"]
theorem sc_Queue_vanishes : FnScope N_Queue_vanishes p_Queue_vanishes (defScope s_Queue_vanishes) := ⟨rfl, rfl, rfl, by decide +kernel, rfl, by decide +kernel, by decide +kernel⟩
def t_Queue_vanishes (P : Program) (w : World) (K : PySem.W.Frag) : TS :=
 (tRet (tC (V.bl false)))

section
variable {P : Program} {w : World} {K : PySem.W.Frag} {mg : Str → Option Value} {base : Heap}
theorem o_Queue_vanishes (T : Tx K mg) {dvs : List V} {kws : List (Str × V)} {f : Addr} {fd : FuncData} (F : FunD K "vanishes" "Queue.vanishes" (defArgs s_Queue_vanishes) (defBody s_Queue_vanishes) (defScope s_Queue_vanishes) dvs kws f fd)
    (pure : ∀ vs H Q (E : XK), (spB false) vs H Q E → t_Queue_vanishes P w K { nx := fun _ H' => Q .non H', rt := Q } (L2.start N_Queue_vanishes vs) H) (len : ∀ vs H Q E, (spB false) vs H Q E → vs.length = 1) : FnOk P w K mg base CX0 1 f fd p_Queue_vanishes (spB false) :=
  F.ok sc_Queue_vanishes len fun cdv A outer s H vs Q E hr h => ⟨t_Queue_vanishes P w K, PSs.nox (by
    unfold t_Queue_vanishes
    exact (pss_one (ps_ret pe_bl))), pure vs H Q E h⟩
end

abbrev s_Answers_vanishes : Stmt := inClass (top 18) 2
abbrev N_Answers_vanishes : List Str := ["self"]
abbrev p_Answers_vanishes : List Str := ["self"]
theorem sc_Answers_vanishes : FnScope N_Answers_vanishes p_Answers_vanishes (defScope s_Answers_vanishes) := ⟨rfl, rfl, rfl, by decide +kernel, rfl, by decide +kernel, by decide +kernel⟩
def t_Answers_vanishes (P : Program) (w : World) (K : PySem.W.Frag) : TS :=
 (tRet (tC (V.bl true)))

section
variable {P : Program} {w : World} {K : PySem.W.Frag} {mg : Str → Option Value} {base : Heap}
theorem o_Answers_vanishes (T : Tx K mg) {dvs : List V} {kws : List (Str × V)} {f : Addr} {fd : FuncData} (F : FunD K "vanishes" "Answers.vanishes" (defArgs s_Answers_vanishes) (defBody s_Answers_vanishes) (defScope s_Answers_vanishes) dvs kws f fd)
    (pure : ∀ vs H Q (E : XK), (spB true) vs H Q E → t_Answers_vanishes P w K { nx := fun _ H' => Q .non H', rt := Q } (L2.start N_Answers_vanishes vs) H) (len : ∀ vs H Q E, (spB true) vs H Q E → vs.length = 1) : FnOk P w K mg base CX0 1 f fd p_Answers_vanishes (spB true) :=
  F.ok sc_Answers_vanishes len fun cdv A outer s H vs Q E hr h => ⟨t_Answers_vanishes P w K, PSs.nox (by
    unfold t_Answers_vanishes
    exact (pss_one (ps_ret pe_bl))), pure vs H Q E h⟩
end

abbrev s_Archive_vanishes : Stmt := inClass (top 19) 2
abbrev N_Archive_vanishes : List Str := ["self"]
abbrev p_Archive_vanishes : List Str := ["self"]
theorem sc_Archive_vanishes : FnScope N_Archive_vanishes p_Archive_vanishes (defScope s_Archive_vanishes) := ⟨rfl, rfl, rfl, by decide +kernel, rfl, by decide +kernel, by decide +kernel⟩
def t_Archive_vanishes (P : Program) (w : World) (K : PySem.W.Frag) : TS :=
 (tRet (tC (V.bl false)))

section
variable {P : Program} {w : World} {K : PySem.W.Frag} {mg : Str → Option Value} {base : Heap}
theorem o_Archive_vanishes (T : Tx K mg) {dvs : List V} {kws : List (Str × V)} {f : Addr} {fd : FuncData} (F : FunD K "vanishes" "Archive.vanishes" (defArgs s_Archive_vanishes) (defBody s_Archive_vanishes) (defScope s_Archive_vanishes) dvs kws f fd)
    (pure : ∀ vs H Q (E : XK), (spB false) vs H Q E → t_Archive_vanishes P w K { nx := fun _ H' => Q .non H', rt := Q } (L2.start N_Archive_vanishes vs) H) (len : ∀ vs H Q E, (spB false) vs H Q E → vs.length = 1) : FnOk P w K mg base CX0 1 f fd p_Archive_vanishes (spB false) :=
  F.ok sc_Archive_vanishes len fun cdv A outer s H vs Q E hr h => ⟨t_Archive_vanishes P w K, PSs.nox (by
    unfold t_Archive_vanishes
    exact (pss_one (ps_ret pe_bl))), pure vs H Q E h⟩
end

abbrev s_Store_counts : Stmt := inClass (top 14) 4
abbrev N_Store_counts : List Str := ["self"]
abbrev p_Store_counts : List Str := ["self"]
theorem sc_Store_counts : FnScope N_Store_counts p_Store_counts (defScope s_Store_counts) := ⟨rfl, rfl, rfl, by decide +kernel, rfl, by decide +kernel, by decide +kernel⟩
def t_Store_counts (P : Program) (w : World) (K : PySem.W.Frag) : TS :=
 (tRet (tC (V.bl true)))

section
variable {P : Program} {w : World} {K : PySem.W.Frag} {mg : Str → Option Value} {base : Heap}
theorem o_Store_counts (T : Tx K mg) {dvs : List V} {kws : List (Str × V)} {f : Addr} {fd : FuncData} (F : FunD K "counts" "Store.counts" (defArgs s_Store_counts) (defBody s_Store_counts) (defScope s_Store_counts) dvs kws f fd)
    (pure : ∀ vs H Q (E : XK), (spB true) vs H Q E → t_Store_counts P w K { nx := fun _ H' => Q .non H', rt := Q } (L2.start N_Store_counts vs) H) (len : ∀ vs H Q E, (spB true) vs H Q E → vs.length = 1) : FnOk P w K mg base CX0 1 f fd p_Store_counts (spB true) :=
  F.ok sc_Store_counts len fun cdv A outer s H vs Q E hr h => ⟨t_Store_counts P w K, PSs.nox (by
    unfold t_Store_counts
    exact (pss_one (ps_ret pe_bl))), pure vs H Q E h⟩
end

abbrev s_Table_counts : Stmt := inClass (top 15) 3
abbrev N_Table_counts : List Str := ["self"]
abbrev p_Table_counts : List Str := ["self"]
theorem sc_Table_counts : FnScope N_Table_counts p_Table_counts (defScope s_Table_counts) := ⟨rfl, rfl, rfl, by decide +kernel, rfl, by decide +kernel, by decide +kernel⟩
def t_Table_counts (P : Program) (w : World) (K : PySem.W.Frag) : TS :=
 (tRet (tC (V.bl true)))

section
variable {P : Program} {w : World} {K : PySem.W.Frag} {mg : Str → Option Value} {base : Heap}
theorem o_Table_counts (T : Tx K mg) {dvs : List V} {kws : List (Str × V)} {f : Addr} {fd : FuncData} (F : FunD K "counts" "Table.counts" (defArgs s_Table_counts) (defBody s_Table_counts) (defScope s_Table_counts) dvs kws f fd)
    (pure : ∀ vs H Q (E : XK), (spB true) vs H Q E → t_Table_counts P w K { nx := fun _ H' => Q .non H', rt := Q } (L2.start N_Table_counts vs) H) (len : ∀ vs H Q E, (spB true) vs H Q E → vs.length = 1) : FnOk P w K mg base CX0 1 f fd p_Table_counts (spB true) :=
  F.ok sc_Table_counts len fun cdv A outer s H vs Q E hr h => ⟨t_Table_counts P w K, PSs.nox (by
    unfold t_Table_counts
    exact (pss_one (ps_ret pe_bl))), pure vs H Q E h⟩
end

abbrev s_Log_counts : Stmt := inClass (top 16) 3
abbrev N_Log_counts : List Str := ["self"]
abbrev p_Log_counts : List Str := ["self"]
theorem sc_Log_counts : FnScope N_Log_counts p_Log_counts (defScope s_Log_counts) := ⟨rfl, rfl, rfl, by decide +kernel, rfl, by decide +kernel, by decide +kernel⟩
def t_Log_counts (P : Program) (w : World) (K : PySem.W.Frag) : TS :=
 (tRet (tC (V.bl true)))

section
variable {P : Program} {w : World} {K : PySem.W.Frag} {mg : Str → Option Value} {base : Heap}
theorem o_Log_counts (T : Tx K mg) {dvs : List V} {kws : List (Str × V)} {f : Addr} {fd : FuncData} (F : FunD K "counts" "Log.counts" (defArgs s_Log_counts) (defBody s_Log_counts) (defScope s_Log_counts) dvs kws f fd)
    (pure : ∀ vs H Q (E : XK), (spB true) vs H Q E → t_Log_counts P w K { nx := fun _ H' => Q .non H', rt := Q } (L2.start N_Log_counts vs) H) (len : ∀ vs H Q E, (spB true) vs H Q E → vs.length = 1) : FnOk P w K mg base CX0 1 f fd p_Log_counts (spB true) :=
  F.ok sc_Log_counts len fun cdv A outer s H vs Q E hr h => ⟨t_Log_counts P w K, PSs.nox (by
    unfold t_Log_counts
    exact (pss_one (ps_ret pe_bl))), pure vs H Q E h⟩
end

abbrev s_Queue_counts : Stmt := inClass (top 17) 3
abbrev N_Queue_counts : List Str := ["self"]
abbrev p_Queue_counts : List Str := ["self"]
theorem sc_Queue_counts : FnScope N_Queue_counts p_Queue_counts (defScope s_Queue_counts) := ⟨rfl, rfl, rfl, by decide +kernel, rfl, by decide +kernel, by decide +kernel⟩
def t_Queue_counts (P : Program) (w : World) (K : PySem.W.Frag) : TS :=
 (tRet (tC (V.bl true)))

section
variable {P : Program} {w : World} {K : PySem.W.Frag} {mg : Str → Option Value} {base : Heap}
theorem o_Queue_counts (T : Tx K mg) {dvs : List V} {kws : List (Str × V)} {f : Addr} {fd : FuncData} (F : FunD K "counts" "Queue.counts" (defArgs s_Queue_counts) (defBody s_Queue_counts) (defScope s_Queue_counts) dvs kws f fd)
    (pure : ∀ vs H Q (E : XK), (spB true) vs H Q E → t_Queue_counts P w K { nx := fun _ H' => Q .non H', rt := Q } (L2.start N_Queue_counts vs) H) (len : ∀ vs H Q E, (spB true) vs H Q E → vs.length = 1) : FnOk P w K mg base CX0 1 f fd p_Queue_counts (spB true) :=
  F.ok sc_Queue_counts len fun cdv A outer s H vs Q E hr h => ⟨t_Queue_counts P w K, PSs.nox (by
    unfold t_Queue_counts
    exact (pss_one (ps_ret pe_bl))), pure vs H Q E h⟩
end

abbrev s_Answers_counts : Stmt := inClass (top 18) 3
abbrev N_Answers_counts : List Str := ["self"]
abbrev p_Answers_counts : List Str := ["self"]
theorem sc_Answers_counts : FnScope N_Answers_counts p_Answers_counts (defScope s_Answers_counts) := ⟨rfl, rfl, rfl, by decide +kernel, rfl, by decide +kernel, by decide +kernel⟩
def t_Answers_counts (P : Program) (w : World) (K : PySem.W.Frag) : TS :=
 (tRet (tC (V.bl true)))

section
variable {P : Program} {w : World} {K : PySem.W.Frag} {mg : Str → Option Value} {base : Heap}
theorem o_Answers_counts (T : Tx K mg) {dvs : List V} {kws : List (Str × V)} {f : Addr} {fd : FuncData} (F : FunD K "counts" "Answers.counts" (defArgs s_Answers_counts) (defBody s_Answers_counts) (defScope s_Answers_counts) dvs kws f fd)
    (pure : ∀ vs H Q (E : XK), (spB true) vs H Q E → t_Answers_counts P w K { nx := fun _ H' => Q .non H', rt := Q } (L2.start N_Answers_counts vs) H) (len : ∀ vs H Q E, (spB true) vs H Q E → vs.length = 1) : FnOk P w K mg base CX0 1 f fd p_Answers_counts (spB true) :=
  F.ok sc_Answers_counts len fun cdv A outer s H vs Q E hr h => ⟨t_Answers_counts P w K, PSs.nox (by
    unfold t_Answers_counts
    exact (pss_one (ps_ret pe_bl))), pure vs H Q E h⟩
end

abbrev s_Archive_counts : Stmt := inClass (top 19) 3
abbrev N_Archive_counts : List Str := ["self"]
abbrev p_Archive_counts : List Str := ["self"]
theorem sc_Archive_counts : FnScope N_Archive_counts p_Archive_counts (defScope s_Archive_counts) := ⟨rfl, rfl, rfl, by decide +kernel, rfl, by decide +kernel, by decide +kernel⟩
def t_Archive_counts (P : Program) (w : World) (K : PySem.W.Frag) : TS :=
 (tRet (tC (V.bl false)))

section
variable {P : Program} {w : World} {K : PySem.W.Frag} {mg : Str → Option Value} {base : Heap}
theorem o_Archive_counts (T : Tx K mg) {dvs : List V} {kws : List (Str × V)} {f : Addr} {fd : FuncData} (F : FunD K "counts" "Archive.counts" (defArgs s_Archive_counts) (defBody s_Archive_counts) (defScope s_Archive_counts) dvs kws f fd)
    (pure : ∀ vs H Q (E : XK), (spB false) vs H Q E → t_Archive_counts P w K { nx := fun _ H' => Q .non H', rt := Q } (L2.start N_Archive_counts vs) H) (len : ∀ vs H Q E, (spB false) vs H Q E → vs.length = 1) : FnOk P w K mg base CX0 1 f fd p_Archive_counts (spB false) :=
  F.ok sc_Archive_counts len fun cdv A outer s H vs Q E hr h => ⟨t_Archive_counts P w K, PSs.nox (by
    unfold t_Archive_counts
    exact (pss_one (ps_ret pe_bl))), pure vs H Q E h⟩
end

abbrev s_Rolling_vanishes : Stmt := inClass (top 20) 2
abbrev N_Rolling_vanishes : List Str := ["self"]
abbrev p_Rolling_vanishes : List Str := ["self"]
theorem sc_Rolling_vanishes : FnScope N_Rolling_vanishes p_Rolling_vanishes (defScope s_Rolling_vanishes) := ⟨rfl, rfl, rfl, by decide +kernel, rfl, by decide +kernel, by decide +kernel⟩
def t_Rolling_vanishes (P : Program) (w : World) (K : PySem.W.Frag) : TS :=
 (tRet (tStat (ga K "Answers") ([] : List Str).length (spBK true) E0 (tC (V.ref (ga K "Answers"))) (tCons (tVar 0) tNil) tNil))

section
variable {P : Program} {w : World} {K : PySem.W.Frag} {mg : Str → Option Value} {base : Heap}
theorem o_Rolling_vanishes (T : Tx K mg) (st_Answers_vanishes : Stt P w K mg base 1 (ga K "Answers") "vanishes" [] (spBK true)) {dvs : List V} {kws : List (Str × V)} {f : Addr} {fd : FuncData} (F : FunD K "vanishes" "Rolling.vanishes" (defArgs s_Rolling_vanishes) (defBody s_Rolling_vanishes) (defScope s_Rolling_vanishes) dvs kws f fd)
    (pure : ∀ vs H Q (E : XK), (spB true) vs H Q E → t_Rolling_vanishes P w K { nx := fun _ H' => Q .non H', rt := Q } (L2.start N_Rolling_vanishes vs) H) (len : ∀ vs H Q E, (spB true) vs H Q E → vs.length = 1) : FnOk P w K mg base CX0 2 f fd p_Rolling_vanishes (spB true) :=
  F.ok sc_Rolling_vanishes len fun cdv A outer s H vs Q E hr h => ⟨t_Rolling_vanishes P w K, PSs.nox (by
    unfold t_Rolling_vanishes
    exact (pss_one (ps_ret (pe_st (pe_gc (v := V.ref (ga K "Answers")) rfl ⟨_, T.gl 4 rfl, rfl⟩) st_Answers_vanishes hr (by decide) (pa_cons (pv 0) pa_nil) pk_nil)))), pure vs H Q E h⟩
end

abbrev s_Storex_containsx : Stmt := inClass (top 14) 5
abbrev N_Storex_containsx : List Str := ["self", "action"]
abbrev p_Storex_containsx : List Str := ["self", "action"]
theorem sc_Storex_containsx : FnScope N_Storex_containsx p_Storex_containsx (defScope s_Storex_containsx) := ⟨rfl, rfl, rfl, by decide +kernel, rfl, by decide +kernel, by decide +kernel⟩
def t_Storex_containsx (P : Program) (w : World) (K : PySem.W.Frag) : TS :=
 (tRet (tAndV (tCB (rIsi K) (tCons (tVar 1) (tCons (tC (V.ty "str")) tNil))) (tOp (rIn K false) (tVar 1) (tMethD (kindCs K) "actions" (spMActs K) (tVar 0) tNil))))

section
variable {P : Program} {w : World} {K : PySem.W.Frag} {mg : Str → Option Value} {base : Heap}
theorem o_Storex_containsx (T : Tx K mg) (d_actions : Disp P w K mg base 2 (kindCs K) "actions" (spMActs K)) {dvs : List V} {kws : List (Str × V)} {f : Addr} {fd : FuncData} (F : FunD K "__contains__" "Store.__contains__" (defArgs s_Storex_containsx) (defBody s_Storex_containsx) (defScope s_Storex_containsx) dvs kws f fd)
    (pure : ∀ vs H Q (E : XK), (spContains K) vs H Q E → t_Storex_containsx P w K { nx := fun _ H' => Q .non H', rt := Q } (L2.start N_Storex_containsx vs) H) (len : ∀ vs H Q E, (spContains K) vs H Q E → vs.length = 2) : FnOk P w K mg base CX0 3 f fd p_Storex_containsx (spContains K) :=
  F.ok sc_Storex_containsx len fun cdv A outer s H vs Q E hr h => ⟨t_Storex_containsx P w K, PSs.nox (by
    unfold t_Storex_containsx
    exact (pss_one (ps_ret (pe_and (pe_callB call_isi rfl (T.fr 10 rfl) (by decide +kernel) (pa_cons (pv 1) (pa_cons (pe_bltn (v := V.ty "str") rfl (T.fr 6 rfl) (by decide +kernel) rfl) pa_nil))) (pe_one (pe_cmpR op_in_seq (pv 1) (pe_methD0 (pv 0) d_actions hr (by decide)) rfl)))))), pure vs H Q E h⟩
end

abbrev s_law_made_store : Stmt := top 28
abbrev N_law_made_store : List Str := ["_law_store", "_law_word", "_law_name", "_law_base", "_law_ends", "_law_parts"]
abbrev p_law_made_store : List Str := ["_law_store"]
theorem sc_law_made_store : FnScope N_law_made_store p_law_made_store (defScope s_law_made_store) := ⟨rfl, rfl, rfl, by decide +kernel, rfl, by decide +kernel, by decide +kernel⟩
def t_law_made_store_7 (P : Program) (w : World) (K : PySem.W.Frag) : TS :=
 (tRet (tMakeA (ga K "Store") (["under", "refs", "fields"] : List Str).length (spInitK K) E0 (tCons (tVar 2) tNil) (tCons (tVar 3) (tCons (tVar 4) (tCons (tVar 5) tNil)))))
def t_law_made_store_6 (P : Program) (w : World) (K : PySem.W.Frag) : TS :=
 (tSeq (tIfS (tTest (tOp (rEqU K) (tVar 1) (tC (V.str "rolling")))) (tRet (tMakeA (ga K "Rolling") (["under", "refs", "fields"] : List Str).length (spInitK K) E0 (tCons (tVar 2) tNil) (tCons (tVar 3) (tCons (tVar 4) (tCons (tVar 5) tNil))))) tNext)
 (t_law_made_store_7 P w K))
def t_law_made_store_5 (P : Program) (w : World) (K : PySem.W.Frag) : TS :=
 (tSeq (tIfS (tTest (tOp (rEqU K) (tVar 1) (tC (V.str "archive")))) (tRet (tMakeA (ga K "Archive") (["under", "refs", "fields"] : List Str).length (spInitK K) E0 (tCons (tVar 2) tNil) (tCons (tVar 3) (tCons (tVar 4) (tCons (tVar 5) tNil))))) tNext)
 (t_law_made_store_6 P w K))
def t_law_made_store_4 (P : Program) (w : World) (K : PySem.W.Frag) : TS :=
 (tSeq (tIfS (tTest (tOp (rEqU K) (tVar 1) (tC (V.str "answers")))) (tRet (tMakeA (ga K "Answers") (["under", "refs", "fields"] : List Str).length (spInitK K) E0 (tCons (tVar 2) tNil) (tCons (tVar 3) (tCons (tVar 4) (tCons (tVar 5) tNil))))) tNext)
 (t_law_made_store_5 P w K))
def t_law_made_store_3 (P : Program) (w : World) (K : PySem.W.Frag) : TS :=
 (tSeq (tIfS (tTest (tOp (rEqU K) (tVar 1) (tC (V.str "queue")))) (tRet (tMakeA (ga K "Queue") (["under", "refs", "fields"] : List Str).length (spInitK K) E0 (tCons (tVar 2) tNil) (tCons (tVar 3) (tCons (tVar 4) (tCons (tVar 5) tNil))))) tNext)
 (t_law_made_store_4 P w K))
def t_law_made_store_2 (P : Program) (w : World) (K : PySem.W.Frag) : TS :=
 (tSeq (tIfS (tTest (tOp (rEqU K) (tVar 1) (tC (V.str "log")))) (tRet (tMakeA (ga K "Log") (["under", "refs", "fields"] : List Str).length (spInitK K) E0 (tCons (tVar 2) tNil) (tCons (tVar 3) (tCons (tVar 4) (tCons (tVar 5) tNil))))) tNext)
 (t_law_made_store_3 P w K))
def t_law_made_store_1 (P : Program) (w : World) (K : PySem.W.Frag) : TS :=
 (tSeq (tIfS (tTest (tOp (rEqU K) (tVar 1) (tC (V.str "table")))) (tRet (tMakeA (ga K "Table") (["under", "refs", "fields"] : List Str).length (spInitK K) E0 (tCons (tVar 2) tNil) (tCons (tVar 3) (tCons (tVar 4) (tCons (tVar 5) tNil))))) tNext)
 (t_law_made_store_2 P w K))
def t_law_made_store (P : Program) (w : World) (K : PySem.W.Frag) : TS :=
 (tSeq (tAsg (tVar 0) (gTup K 5 (gCons (gName 1) (gCons (gName 2) (gCons (gName 3) (gCons (gName 4) (gCons (gName 5) gNil)))))))
 (t_law_made_store_1 P w K))

section
variable {P : Program} {w : World} {K : PySem.W.Frag} {mg : Str → Option Value} {base : Heap}
theorem o_law_made_store (T : Tx K mg) (mk_Table : Mkr P w K mg base 4 "Table" (ga K "Table") ["under", "refs", "fields"] (spInitK K)) (mk_Log : Mkr P w K mg base 4 "Log" (ga K "Log") ["under", "refs", "fields"] (spInitK K)) (mk_Queue : Mkr P w K mg base 4 "Queue" (ga K "Queue") ["under", "refs", "fields"] (spInitK K)) (mk_Answers : Mkr P w K mg base 4 "Answers" (ga K "Answers") ["under", "refs", "fields"] (spInitK K)) (mk_Archive : Mkr P w K mg base 4 "Archive" (ga K "Archive") ["under", "refs", "fields"] (spInitK K)) (mk_Rolling : Mkr P w K mg base 4 "Rolling" (ga K "Rolling") ["under", "refs", "fields"] (spInitK K)) (mk_Store : Mkr P w K mg base 4 "Store" (ga K "Store") ["under", "refs", "fields"] (spInitK K)) {dvs : List V} {kws : List (Str × V)} {f : Addr} {fd : FuncData} (F : FunD K "_law_made_store" "_law_made_store" (defArgs s_law_made_store) (defBody s_law_made_store) (defScope s_law_made_store) dvs kws f fd)
    (pure : ∀ vs H Q (E : XK), (spMade K) vs H Q E → t_law_made_store P w K { nx := fun _ H' => Q .non H', rt := Q } (L2.start N_law_made_store vs) H) (len : ∀ vs H Q E, (spMade K) vs H Q E → vs.length = 1) : FnOk P w K mg base CX0 6 f fd p_law_made_store (spMade K) :=
  F.ok sc_law_made_store len fun cdv A outer s H vs Q E hr h => ⟨t_law_made_store P w K, PSs.nox (by
    unfold t_law_made_store t_law_made_store_1 t_law_made_store_2 t_law_made_store_3 t_law_made_store_4 t_law_made_store_5 t_law_made_store_6 t_law_made_store_7
    exact (pss_cons (ps_asg (pv 0) (pg_tup rfl (pgs_cons (pg_name (i := 1) sc_law_made_store.nd rfl (Or.inl rfl)) (pgs_cons (pg_name (i := 2) sc_law_made_store.nd rfl (Or.inl rfl)) (pgs_cons (pg_name (i := 3) sc_law_made_store.nd rfl (Or.inl rfl)) (pgs_cons (pg_name (i := 4) sc_law_made_store.nd rfl (Or.inl rfl)) (pgs_cons (pg_name (i := 5) sc_law_made_store.nd rfl (Or.inl rfl)) pgs_nil)))))))
 (pss_cons (ps_if (pt_cmpR (op_eqU hr.units) (pv 1) pe_str (nomark _)) (pss_one (ps_ret (pe_mk mk_Table hr (by decide) rfl (pa_cons (pv 2) pa_nil) (pk_cons (pv 3) (pk_cons (pv 4) (pk_cons (pv 5) pk_nil)))))) pss_nil)
 (pss_cons (ps_if (pt_cmpR (op_eqU hr.units) (pv 1) pe_str (nomark _)) (pss_one (ps_ret (pe_mk mk_Log hr (by decide) rfl (pa_cons (pv 2) pa_nil) (pk_cons (pv 3) (pk_cons (pv 4) (pk_cons (pv 5) pk_nil)))))) pss_nil)
 (pss_cons (ps_if (pt_cmpR (op_eqU hr.units) (pv 1) pe_str (nomark _)) (pss_one (ps_ret (pe_mk mk_Queue hr (by decide) rfl (pa_cons (pv 2) pa_nil) (pk_cons (pv 3) (pk_cons (pv 4) (pk_cons (pv 5) pk_nil)))))) pss_nil)
 (pss_cons (ps_if (pt_cmpR (op_eqU hr.units) (pv 1) pe_str (nomark _)) (pss_one (ps_ret (pe_mk mk_Answers hr (by decide) rfl (pa_cons (pv 2) pa_nil) (pk_cons (pv 3) (pk_cons (pv 4) (pk_cons (pv 5) pk_nil)))))) pss_nil)
 (pss_cons (ps_if (pt_cmpR (op_eqU hr.units) (pv 1) pe_str (nomark _)) (pss_one (ps_ret (pe_mk mk_Archive hr (by decide) rfl (pa_cons (pv 2) pa_nil) (pk_cons (pv 3) (pk_cons (pv 4) (pk_cons (pv 5) pk_nil)))))) pss_nil)
 (pss_cons (ps_if (pt_cmpR (op_eqU hr.units) (pv 1) pe_str (nomark _)) (pss_one (ps_ret (pe_mk mk_Rolling hr (by decide) rfl (pa_cons (pv 2) pa_nil) (pk_cons (pv 3) (pk_cons (pv 4) (pk_cons (pv 5) pk_nil)))))) pss_nil)
 (pss_one (ps_ret (pe_mk mk_Store hr (by decide) rfl (pa_cons (pv 2) pa_nil) (pk_cons (pv 3) (pk_cons (pv 4) (pk_cons (pv 5) pk_nil)))))))))))))), pure vs H Q E h⟩
end

abbrev s_law_words_told : Stmt := top 29
abbrev N_law_words_told : List Str := []
abbrev p_law_words_told : List Str := []
theorem sc_law_words_told : FnScope N_law_words_told p_law_words_told (defScope s_law_words_told) := ⟨rfl, rfl, rfl, by decide +kernel, rfl, by decide +kernel, by decide +kernel⟩
def t_law_words_told (P : Program) (w : World) (K : PySem.W.Frag) : TS :=
 (tRet (tLst (tCons (ClX.tCVal K (tC (V.ref (ga K "Store"))) "WORD") (tCons (ClX.tCVal K (tC (V.ref (ga K "Table"))) "WORD") (tCons (ClX.tCVal K (tC (V.ref (ga K "Log"))) "WORD") (tCons (ClX.tCVal K (tC (V.ref (ga K "Queue"))) "WORD") (tCons (ClX.tCVal K (tC (V.ref (ga K "Answers"))) "WORD") (tCons (ClX.tCVal K (tC (V.ref (ga K "Archive"))) "WORD") (tCons (ClX.tCVal K (tC (V.ref (ga K "Rolling"))) "WORD") tNil)))))))))

section
variable {P : Program} {w : World} {K : PySem.W.Frag} {mg : Str → Option Value} {base : Heap}
theorem o_law_words_told (T : Tx K mg) {dvs : List V} {kws : List (Str × V)} {f : Addr} {fd : FuncData} (F : FunD K "_law_words_told" "_law_words_told" (defArgs s_law_words_told) (defBody s_law_words_told) (defScope s_law_words_told) dvs kws f fd)
    (pure : ∀ vs H Q (E : XK), spTold vs H Q E → t_law_words_told P w K { nx := fun _ H' => Q .non H', rt := Q } (L2.start N_law_words_told vs) H) (len : ∀ vs H Q E, spTold vs H Q E → vs.length = 0) : FnOk P w K mg base CX0 1 f fd p_law_words_told spTold :=
  F.ok sc_law_words_told len fun cdv A outer s H vs Q E hr h => ⟨t_law_words_told P w K, PSs.nox (by
    unfold t_law_words_told
    exact (pss_one (ps_ret (pe_lst (pa_cons (ClX.pe_cval (pe_gc (v := V.ref (ga K "Store")) rfl ⟨_, T.gl 0 rfl, rfl⟩)) (pa_cons (ClX.pe_cval (pe_gc (v := V.ref (ga K "Table")) rfl ⟨_, T.gl 1 rfl, rfl⟩)) (pa_cons (ClX.pe_cval (pe_gc (v := V.ref (ga K "Log")) rfl ⟨_, T.gl 2 rfl, rfl⟩)) (pa_cons (ClX.pe_cval (pe_gc (v := V.ref (ga K "Queue")) rfl ⟨_, T.gl 3 rfl, rfl⟩)) (pa_cons (ClX.pe_cval (pe_gc (v := V.ref (ga K "Answers")) rfl ⟨_, T.gl 4 rfl, rfl⟩)) (pa_cons (ClX.pe_cval (pe_gc (v := V.ref (ga K "Archive")) rfl ⟨_, T.gl 5 rfl, rfl⟩)) (pa_cons (ClX.pe_cval (pe_gc (v := V.ref (ga K "Rolling")) rfl ⟨_, T.gl 6 rfl, rfl⟩)) pa_nil))))))))))), pure vs H Q E h⟩
end

abbrev s_law_actions : Stmt := top 30
abbrev N_law_actions : List Str := ["_law_word", "_law_some", "_law_due"]
abbrev p_law_actions : List Str := ["_law_word"]
theorem sc_law_actions : FnScope N_law_actions p_law_actions (defScope s_law_actions) := ⟨rfl, rfl, rfl, by decide +kernel, rfl, by decide +kernel, by decide +kernel⟩
def t_law_actions_2 (P : Program) (w : World) (K : PySem.W.Frag) : TS :=
 (tRet (tCB (rLstOf K) (tCons (tDGet2 (tVar 2) (tVar 0) (tIf (tTest (tOp (rEqU K) (tVar 0) (tC (V.str "answers")))) (tLst (tCons (tC (V.str "delete")) (tCons (tC (V.str "drop")) tNil))) (tLst (tCons (tC (V.str "drop")) tNil)))) tNil)))
def t_law_actions_1 (P : Program) (w : World) (K : PySem.W.Frag) : TS :=
 (tSeq (tAsg (tDisp (((tC (V.str "store")), (tVar 1)) :: (((tC (V.str "table")), (tVar 1)) :: (((tC (V.str "log")), (tLst (tCons (tC (V.str "blank")) (tCons (tC (V.str "cut")) tNil)))) :: (((tC (V.str "queue")), (tLst (tCons (tC (V.str "delete")) (tCons (tC (V.str "drop")) tNil)))) :: []))))) (gName 2))
 (t_law_actions_2 P w K))
def t_law_actions (P : Program) (w : World) (K : PySem.W.Frag) : TS :=
 (tSeq (tAsg (tLst (tCons (tC (V.str "blank")) (tCons (tC (V.str "change")) (tCons (tC (V.str "cut")) (tCons (tC (V.str "delete")) (tCons (tC (V.str "drop")) tNil)))))) (gName 1))
 (t_law_actions_1 P w K))

section
variable {P : Program} {w : World} {K : PySem.W.Frag} {mg : Str → Option Value} {base : Heap}
theorem o_law_actions (T : Tx K mg) {dvs : List V} {kws : List (Str × V)} {f : Addr} {fd : FuncData} (F : FunD K "_law_actions" "_law_actions" (defArgs s_law_actions) (defBody s_law_actions) (defScope s_law_actions) dvs kws f fd)
    (pure : ∀ vs H Q (E : XK), spLActs vs H Q E → t_law_actions P w K { nx := fun _ H' => Q .non H', rt := Q } (L2.start N_law_actions vs) H) (len : ∀ vs H Q E, spLActs vs H Q E → vs.length = 1) : FnOk P w K mg base CX0 1 f fd p_law_actions spLActs :=
  F.ok sc_law_actions len fun cdv A outer s H vs Q E hr h => ⟨t_law_actions P w K, PSs.nox (by
    unfold t_law_actions t_law_actions_1 t_law_actions_2
    exact (pss_cons (ps_set (i := 1) sc_law_actions.nd rfl (Or.inl rfl) (pe_lst (pa_cons pe_str (pa_cons pe_str (pa_cons pe_str (pa_cons pe_str (pa_cons pe_str pa_nil)))))))
 (pss_cons (ps_set (i := 2) sc_law_actions.nd rfl (Or.inl rfl) (pe_disp (pps_cons pe_str (pv 1) (pps_cons pe_str (pv 1) (pps_cons pe_str (pe_lst (pa_cons pe_str (pa_cons pe_str pa_nil))) (pps_cons pe_str (pe_lst (pa_cons pe_str (pa_cons pe_str pa_nil))) pps_nil)))) rfl rfl (by intro z; cases z) (by decide)))
 (pss_one (ps_ret (pe_callTy call_lstOf rfl (T.fr 7 rfl) (by decide +kernel) (pa_cons (pe_dget2 (units1 hr) (pv 2) (pv 0) (pe_ifExp (pt_cmpR (op_eqU hr.units) (pv 0) pe_str (nomark _)) (pe_lst (pa_cons pe_str (pa_cons pe_str pa_nil))) (pe_lst (pa_cons pe_str pa_nil))) ⟨rfl, rfl, rfl, rfl⟩) pa_nil))))))), pure vs H Q E h⟩
end

abbrev s_law_classes : Stmt := top 31
abbrev N_law_classes : List Str := ["_law_made", "_law_found"]
abbrev p_law_classes : List Str := ["_law_made"]
theorem sc_law_classes : FnScope N_law_classes p_law_classes (defScope s_law_classes) := ⟨rfl, rfl, rfl, by decide +kernel, rfl, by decide +kernel, by decide +kernel⟩
def t_law_classes_1 (P : Program) (w : World) (K : PySem.W.Frag) : TS :=
 (tRet (tOp (rAddU K) (tVar 1) (tLst (tCons (tCB (rIsi K) (tCons (tVar 0) (tCons (tC (V.ref (ga K "Answers"))) tNil))) (tCons (tCB (rIsi K) (tCons (tVar 0) (tCons (tC (V.ref (ga K "Archive"))) tNil))) (tCons (tCB (rIsi K) (tCons (tVar 0) (tCons (tC (V.ref (ga K "Rolling"))) tNil))) tNil))))))
def t_law_classes (P : Program) (w : World) (K : PySem.W.Frag) : TS :=
 (tSeq (tAsg (tLst (tCons (tCB (rIsi K) (tCons (tVar 0) (tCons (tC (V.ref (ga K "Store"))) tNil))) (tCons (tCB (rIsi K) (tCons (tVar 0) (tCons (tC (V.ref (ga K "Table"))) tNil))) (tCons (tCB (rIsi K) (tCons (tVar 0) (tCons (tC (V.ref (ga K "Log"))) tNil))) (tCons (tCB (rIsi K) (tCons (tVar 0) (tCons (tC (V.ref (ga K "Queue"))) tNil))) tNil))))) (gName 1))
 (t_law_classes_1 P w K))

section
variable {P : Program} {w : World} {K : PySem.W.Frag} {mg : Str → Option Value} {base : Heap}
theorem o_law_classes (T : Tx K mg) {dvs : List V} {kws : List (Str × V)} {f : Addr} {fd : FuncData} (F : FunD K "_law_classes" "_law_classes" (defArgs s_law_classes) (defBody s_law_classes) (defScope s_law_classes) dvs kws f fd)
    (pure : ∀ vs H Q (E : XK), (spClasses K) vs H Q E → t_law_classes P w K { nx := fun _ H' => Q .non H', rt := Q } (L2.start N_law_classes vs) H) (len : ∀ vs H Q E, (spClasses K) vs H Q E → vs.length = 1) : FnOk P w K mg base CX0 1 f fd p_law_classes (spClasses K) :=
  F.ok sc_law_classes len fun cdv A outer s H vs Q E hr h => ⟨t_law_classes P w K, PSs.nox (by
    unfold t_law_classes t_law_classes_1
    exact (pss_cons (ps_set (i := 1) sc_law_classes.nd rfl (Or.inl rfl) (pe_lst (pa_cons (pe_callB call_isi rfl (T.fr 10 rfl) (by decide +kernel) (pa_cons (pv 0) (pa_cons (pe_gc (v := V.ref (ga K "Store")) rfl ⟨_, T.gl 0 rfl, rfl⟩) pa_nil))) (pa_cons (pe_callB call_isi rfl (T.fr 10 rfl) (by decide +kernel) (pa_cons (pv 0) (pa_cons (pe_gc (v := V.ref (ga K "Table")) rfl ⟨_, T.gl 1 rfl, rfl⟩) pa_nil))) (pa_cons (pe_callB call_isi rfl (T.fr 10 rfl) (by decide +kernel) (pa_cons (pv 0) (pa_cons (pe_gc (v := V.ref (ga K "Log")) rfl ⟨_, T.gl 2 rfl, rfl⟩) pa_nil))) (pa_cons (pe_callB call_isi rfl (T.fr 10 rfl) (by decide +kernel) (pa_cons (pv 0) (pa_cons (pe_gc (v := V.ref (ga K "Queue")) rfl ⟨_, T.gl 3 rfl, rfl⟩) pa_nil))) pa_nil))))))
 (pss_one (ps_ret (pe_op op_addU (pv 1) (pe_lst (pa_cons (pe_callB call_isi rfl (T.fr 10 rfl) (by decide +kernel) (pa_cons (pv 0) (pa_cons (pe_gc (v := V.ref (ga K "Answers")) rfl ⟨_, T.gl 4 rfl, rfl⟩) pa_nil))) (pa_cons (pe_callB call_isi rfl (T.fr 10 rfl) (by decide +kernel) (pa_cons (pv 0) (pa_cons (pe_gc (v := V.ref (ga K "Archive")) rfl ⟨_, T.gl 5 rfl, rfl⟩) pa_nil))) (pa_cons (pe_callB call_isi rfl (T.fr 10 rfl) (by decide +kernel) (pa_cons (pv 0) (pa_cons (pe_gc (v := V.ref (ga K "Rolling")) rfl ⟨_, T.gl 6 rfl, rfl⟩) pa_nil))) pa_nil))))))))), pure vs H Q E h⟩
end

abbrev s_law_due_classes : Stmt := top 32
abbrev N_law_due_classes : List Str := ["_law_word", "_law_words", "_law_found", "_law_one"]
abbrev p_law_due_classes : List Str := ["_law_word", "_law_words"]
theorem sc_law_due_classes : FnScope N_law_due_classes p_law_due_classes (defScope s_law_due_classes) := ⟨rfl, rfl, rfl, by decide +kernel, rfl, by decide +kernel, by decide +kernel⟩
def t_law_due_classes_2 (P : Program) (w : World) (K : PySem.W.Frag) : TS :=
 (tRet (tVar 2))
def t_law_due_classes_1 (P : Program) (w : World) (K : PySem.W.Frag) : TS :=
 (tSeq (tIfS (tTest (tOp (rEqU K) (tVar 0) (tC (V.str "rolling")))) (tAsg (tLc (iList K (tVar 1)) (gName 3) tYes (tOp (rIn K false) (tVar 3) (tLst (tCons (tC (V.str "store")) (tCons (tC (V.str "answers")) (tCons (tC (V.str "archive")) (tCons (tC (V.str "rolling")) tNil)))))) [3]) (gName 2)) tNext)
 (t_law_due_classes_2 P w K))
def t_law_due_classes (P : Program) (w : World) (K : PySem.W.Frag) : TS :=
 (tSeq (tAsg (tLc (iList K (tVar 1)) (gName 3) tYes (tOrV (tOp (rEqU K) (tVar 3) (tVar 0)) (tOp (rEqU K) (tVar 3) (tC (V.str "store")))) [3]) (gName 2))
 (t_law_due_classes_1 P w K))

section
variable {P : Program} {w : World} {K : PySem.W.Frag} {mg : Str → Option Value} {base : Heap}
theorem o_law_due_classes (T : Tx K mg) {dvs : List V} {kws : List (Str × V)} {f : Addr} {fd : FuncData} (F : FunD K "_law_due_classes" "_law_due_classes" (defArgs s_law_due_classes) (defBody s_law_due_classes) (defScope s_law_due_classes) dvs kws f fd)
    (pure : ∀ vs H Q (E : XK), (spDueC K) vs H Q E → t_law_due_classes P w K { nx := fun _ H' => Q .non H', rt := Q } (L2.start N_law_due_classes vs) H) (len : ∀ vs H Q E, (spDueC K) vs H Q E → vs.length = 2) : FnOk P w K mg base CX0 1 f fd p_law_due_classes (spDueC K) :=
  F.ok sc_law_due_classes len fun cdv A outer s H vs Q E hr h => ⟨t_law_due_classes P w K, PSs.nox (by
    unfold t_law_due_classes t_law_due_classes_1 t_law_due_classes_2
    exact (pss_cons (ps_setLc (i := 2) (own := [("_law_one", 3)]) (g := (gName 3)) (tt := tYes) rfl sc_law_due_classes.nd rfl rfl (sw_true rfl rfl rfl (by decide +kernel)) (pi_list (pv 1)) (blkOk_by (own := [("_law_one", 3)]) (N := N_law_due_classes) (sc := defScope s_law_due_classes) (by decide +kernel)) (fun _ _ _ _ _ => (pg_name (i := 3) sc_law_due_classes.nd rfl (Or.inl rfl))) (fun _ _ _ _ _ => pts_nil) (fun _ _ _ _ _ => (pe_or (pe_cmpR (op_eqU hr.units) (pv 3) (pv 0) (nomark _)) (pe_one (pe_cmpR (op_eqU hr.units) (pv 3) pe_str (nomark _))))))
 (pss_cons (ps_if (pt_cmpR (op_eqU hr.units) (pv 0) pe_str (nomark _)) (pss_one (ps_setLc (i := 2) (own := [("_law_one", 3)]) (g := (gName 3)) (tt := tYes) rfl sc_law_due_classes.nd rfl rfl (sw_true rfl rfl rfl (by decide +kernel)) (pi_list (pv 1)) (blkOk_by (own := [("_law_one", 3)]) (N := N_law_due_classes) (sc := defScope s_law_due_classes) (by decide +kernel)) (fun _ _ _ _ _ => (pg_name (i := 3) sc_law_due_classes.nd rfl (Or.inl rfl))) (fun _ _ _ _ _ => pts_nil) (fun _ _ _ _ _ => (pe_cmpR op_in_seq (pv 3) (pe_lst (pa_cons pe_str (pa_cons pe_str (pa_cons pe_str (pa_cons pe_str pa_nil))))) rfl)))) pss_nil)
 (pss_one (ps_ret (pv 2)))))), pure vs H Q E h⟩
end

abbrev s_law_right : Stmt := top 33
abbrev N_law_right : List Str := ["_law_bag", "_law_word", "_law_words", "_law_names", "_law_many", "_law_more", "_law_base", "_law_made", "_law_due", "_law_got", "_law_some", "_law_thing"]
abbrev p_law_right : List Str := ["_law_bag", "_law_word", "_law_words"]
theorem sc_law_right : FnScope N_law_right p_law_right (defScope s_law_right) := ⟨rfl, rfl, rfl, by decide +kernel, rfl, by decide +kernel, by decide +kernel⟩
def t_law_right_11 (P : Program) (w : World) (K : PySem.W.Frag) : TS :=
 (tRet (tAndV (tOp (rEqU K) (tMethD (kindCs K) "actions" (spMActs K) (tVar 7) tNil) (tVar 8)) (tOp (rEqU K) (tCall (spClasses K) [] E0 (tCons (tVar 7) tNil)) (tCall (spDueC K) [] E0 (tCons (tVar 1) (tCons (tVar 2) tNil))))))
def t_law_right_10 (P : Program) (w : World) (K : PySem.W.Frag) : TS :=
 (tSeq (tFor (iList K (tOp (rAddU K) (tVar 10) (tLst (tCons (tCall (spOdd K) [] E0 (tCons (tVar 0) (tCons (tC (V.int 0)) tNil))) (tCons (tCall (spOdd K) [] E0 (tCons (tVar 0) (tCons (tC (V.int 9)) tNil))) tNil))))) (gName 11) (tIfS (tTest (tOp (rNeU K) (tOp (rOwnIn K false (gC K) (spContains K) E0) (tVar 11) (tVar 7)) (tAndV (tCB (rIsi K) (tCons (tVar 11) (tCons (tC (V.ty "str")) tNil))) (tOp (rIn K false) (tVar 11) (tVar 8))))) (tRet (tC (V.bl false))) tNext))
 (t_law_right_11 P w K))
def t_law_right_9 (P : Program) (w : World) (K : PySem.W.Frag) : TS :=
 (tSeq (tAsg (tLst (tCons (tC (V.str "blank")) (tCons (tC (V.str "change")) (tCons (tC (V.str "cut")) (tCons (tC (V.str "delete")) (tCons (tC (V.str "drop")) (tCons (tC (V.str "vanish")) (tCons (tVar 1) (tCons (tOp (rIx K) (tVar 3) (tC (V.int 0))) tNil))))))))) (gName 10))
 (t_law_right_10 P w K))
def t_law_right_8 (P : Program) (w : World) (K : PySem.W.Frag) : TS :=
 (tSeq (tIfS (tNot (tB (tCall spTruth [] E0 (tCons (tMethD (kindCs K) "counts" (spMB K cnt) (tVar 7) tNil) (tCons (tOp (rIn K true) (tVar 1) (tLst (tCons (tC (V.str "archive")) (tCons (tC (V.str "rolling")) tNil)))) tNil))))) (tRet (tC (V.bl false))) tNext)
 (t_law_right_9 P w K))
def t_law_right_7 (P : Program) (w : World) (K : PySem.W.Frag) : TS :=
 (tSeq (tIfS (tNot (tB (tCall spTruth [] E0 (tCons (tMethD (kindCs K) "vanishes" (spMB K van) (tVar 7) tNil) (tCons (tOp (rIn K false) (tVar 1) (tLst (tCons (tC (V.str "answers")) (tCons (tC (V.str "rolling")) tNil)))) tNil))))) (tRet (tC (V.bl false))) tNext)
 (t_law_right_8 P w K))
def t_law_right_6 (P : Program) (w : World) (K : PySem.W.Frag) : TS :=
 (tSeq (tDrop (tBM K "list" rAppend (tVar 9) (tCons (tC (V.str "vanish")) tNil)))
 (t_law_right_7 P w K))
def t_law_right_5 (P : Program) (w : World) (K : PySem.W.Frag) : TS :=
 (tSeq (tIfS (tOr (tTest (tOp (rNeU K) (tCon K (tVar 7) "WORD") (tVar 1))) (tOr (tNot (tB (tCB (rIsi K) (tCons (tVar 9) (tCons (tC (V.ty "list")) tNil))))) (tTest (tOp (rNeU K) (tVar 9) (tVar 8))))) (tRet (tC (V.bl false))) tNext)
 (t_law_right_6 P w K))
def t_law_right_4 (P : Program) (w : World) (K : PySem.W.Frag) : TS :=
 (tSeq (tPar 8 9 (tCons (tCall spLActs [] E0 (tCons (tVar 1) tNil)) (tCons (tMethD (kindCs K) "actions" (spMActs K) (tVar 7) tNil) tNil)))
 (t_law_right_5 P w K))
def t_law_right_3 (P : Program) (w : World) (K : PySem.W.Frag) : TS :=
 (tSeq (tAsg (tCall (spMade K) [] E0 (tCons (tTup (tCons (tVar 1) (tCons (tOp (rIx K) (tVar 3) (tC (V.int 6))) (tCons (tVar 6) (tCons (tCB (rTupOf K) (tCons (tSl (rSlL K) (tVar 3) tNoPart (tPart (tVar 4))) tNil)) (tCons (tCB (rTupOf K) (tCons (tSl (rSlL K) (tVar 3) (tPart (tC (V.int 3))) (tPart (tOp (rAddU K) (tC (V.int 3)) (tVar 5)))) tNil)) tNil)))))) tNil)) (gName 7))
 (t_law_right_4 P w K))
def t_law_right_2 (P : Program) (w : World) (K : PySem.W.Frag) : TS :=
 (tSeq (tAsg (tCall (spOf K) [] E0 (tCons (tVar 0) (tCons (tLst (tCons (tC V.non) (tCons (tOp (rIx K) (tVar 3) (tC (V.int 7))) tNil))) tNil))) (gName 6))
 (t_law_right_3 P w K))
def t_law_right_1 (P : Program) (w : World) (K : PySem.W.Frag) : TS :=
 (tSeq (tPar 4 5 (tCons (tCall spDraw [] E0 (tCons (tVar 0) (tCons (tC (V.int 4)) tNil))) (tCons (tCall spDraw [] E0 (tCons (tVar 0) (tCons (tC (V.int 4)) tNil))) tNil)))
 (t_law_right_2 P w K))
def t_law_right (P : Program) (w : World) (K : PySem.W.Frag) : TS :=
 (tSeq (tAsg (tCall spWords [] E0 (tCons (tVar 0) (tCons (tC (V.int 8)) tNil))) (gName 3))
 (t_law_right_1 P w K))

section
variable {P : Program} {w : World} {K : PySem.W.Frag} {mg : Str → Option Value} {base : Heap}
theorem o_law_right (T : Tx K mg) (c_law_some_words : Cal P w K mg base 2 "_law_some_words" spWords []) (c_law_draw : Cal P w K mg base 1 "_law_draw" spDraw []) (c_law_of : Cal P w K mg base 2 "_law_of" (spOf K) []) (c_law_made_store : Cal P w K mg base 6 "_law_made_store" (spMade K) []) (c_law_actions : Cal P w K mg base 1 "_law_actions" spLActs []) (c_law_is_truth : Cal P w K mg base 1 "_law_is_truth" spTruth []) (c_law_odd_one : Cal P w K mg base 2 "_law_odd_one" (spOdd K) []) (c_law_classes : Cal P w K mg base 1 "_law_classes" (spClasses K) []) (c_law_due_classes : Cal P w K mg base 1 "_law_due_classes" (spDueC K) []) (d_actions : Disp P w K mg base 2 (kindCs K) "actions" (spMActs K)) (d_vanishes : Disp P w K mg base 2 (kindCs K) "vanishes" (spMB K van)) (d_counts : Disp P w K mg base 2 (kindCs K) "counts" (spMB K cnt)) (fC : FnR P w K mg base CX0 3 (gC K) (spContains K)) {dvs : List V} {kws : List (Str × V)} {f : Addr} {fd : FuncData} (F : FunD K "_law_right" "_law_right" (defArgs s_law_right) (defBody s_law_right) (defScope s_law_right) dvs kws f fd)
    (pure : ∀ vs H Q (E : XK), (spRight K) vs H Q E → t_law_right P w K { nx := fun _ H' => Q .non H', rt := Q } (L2.start N_law_right vs) H) (len : ∀ vs H Q E, (spRight K) vs H Q E → vs.length = 3) : FnOk P w K mg base CX0 7 f fd p_law_right (spRight K) :=
  F.ok sc_law_right len fun cdv A outer s H vs Q E hr h => ⟨t_law_right P w K, PSs.nox (by
    unfold t_law_right t_law_right_1 t_law_right_2 t_law_right_3 t_law_right_4 t_law_right_5 t_law_right_6 t_law_right_7 t_law_right_8 t_law_right_9 t_law_right_10 t_law_right_11
    exact (pss_cons (ps_set (i := 3) sc_law_right.nd rfl (Or.inl rfl) (pe_c c_law_some_words hr (by decide) rfl (pa_cons (pv 0) (pa_cons pe_int pa_nil))))
 (pss_cons (ps_par rfl sc_law_right.nd rfl rfl (by decide) rfl rfl (pa_cons (pe_c c_law_draw hr (by decide) rfl (pa_cons (pv 0) (pa_cons pe_int pa_nil))) (pa_cons (pe_c c_law_draw hr (by decide) rfl (pa_cons (pv 0) (pa_cons pe_int pa_nil))) pa_nil)) rfl)
 (pss_cons (ps_set (i := 6) sc_law_right.nd rfl (Or.inl rfl) (pe_c c_law_of hr (by decide) rfl (pa_cons (pv 0) (pa_cons (pe_lst (pa_cons pe_non (pa_cons (pe_ix ix_seq (pv 3) pe_int (fun _ _ => rfl)) pa_nil))) pa_nil))))
 (pss_cons (ps_set (i := 7) sc_law_right.nd rfl (Or.inl rfl) (pe_c c_law_made_store hr (by decide) rfl (pa_cons (pe_tup (pa_cons (pv 1) (pa_cons (pe_ix ix_seq (pv 3) pe_int (fun _ _ => rfl)) (pa_cons (pv 6) (pa_cons (pe_callTy call_tupOf rfl (T.fr 8 rfl) (by decide +kernel) (pa_cons (pe_slice sl_list (pv 3) po_none (po_some (pv 4))) pa_nil)) (pa_cons (pe_callTy call_tupOf rfl (T.fr 8 rfl) (by decide +kernel) (pa_cons (pe_slice sl_list (pv 3) (po_some pe_int) (po_some (pe_op op_addU pe_int (pv 5)))) pa_nil)) pa_nil)))))) pa_nil)))
 (pss_cons (ps_par rfl sc_law_right.nd rfl rfl (by decide) rfl rfl (pa_cons (pe_c c_law_actions hr (by decide) rfl (pa_cons (pv 1) pa_nil)) (pa_cons (pe_methD0 (pv 7) d_actions hr (by decide)) pa_nil)) rfl)
 (pss_cons (ps_if (PW.pt (pw_or (pt_cmpR (op_neU hr.units) (pe_con (pv 7) rfl) (pv 1) (nomark _)) (pw_or (pt_not (pt_val (pe_callB call_isi rfl (T.fr 10 rfl) (by decide +kernel) (pa_cons (pv 9) (pa_cons (pe_bltn (v := V.ty "list") rfl (T.fr 7 rfl) (by decide +kernel) rfl) pa_nil))))) (pw_or1 (pt_cmpR (op_neU hr.units) (pv 9) (pv 8) (nomark _)))))) (pss_one (ps_ret pe_bl)) pss_nil)
 (pss_cons (ps_expr (pe_bm PySem.F.plainAttrs_list PySem.F.slot_list_append PySem.F.type_list_append mt_append (pv 9) (pa_cons pe_str pa_nil)))
 (pss_cons (ps_if (pt_not (pt_val (pe_c c_law_is_truth hr (by decide) rfl (pa_cons (pe_methD0 (pv 7) d_vanishes hr (by decide)) (pa_cons (pe_cmpR op_in_seq (pv 1) (pe_lst (pa_cons pe_str (pa_cons pe_str pa_nil))) rfl) pa_nil))))) (pss_one (ps_ret pe_bl)) pss_nil)
 (pss_cons (ps_if (pt_not (pt_val (pe_c c_law_is_truth hr (by decide) rfl (pa_cons (pe_methD0 (pv 7) d_counts hr (by decide)) (pa_cons (pe_cmpR op_notIn_seq (pv 1) (pe_lst (pa_cons pe_str (pa_cons pe_str pa_nil))) rfl) pa_nil))))) (pss_one (ps_ret pe_bl)) pss_nil)
 (pss_cons (ps_set (i := 10) sc_law_right.nd rfl (Or.inl rfl) (pe_lst (pa_cons pe_str (pa_cons pe_str (pa_cons pe_str (pa_cons pe_str (pa_cons pe_str (pa_cons pe_str (pa_cons (pv 1) (pa_cons (pe_ix ix_seq (pv 3) pe_int (fun _ _ => rfl)) pa_nil))))))))))
 (pss_cons (ps_for PassesOwn.never rfl (pi_list (pe_op op_addU (pv 10) (pe_lst (pa_cons (pe_c c_law_odd_one hr (by decide) rfl (pa_cons (pv 0) (pa_cons pe_int pa_nil))) (pa_cons (pe_c c_law_odd_one hr (by decide) rfl (pa_cons (pv 0) (pa_cons pe_int pa_nil))) pa_nil))))) (pg_name (i := 11) sc_law_right.nd rfl (Or.inl rfl)) (pss_one (ps_if (pt_cmpR (op_neU hr.units) (pe_cmpR (op_ownIn fC (hr.mono (by decide)) pass0) (pv 11) (pv 7) rfl) (pe_and (pe_callB call_isi rfl (T.fr 10 rfl) (by decide +kernel) (pa_cons (pv 11) (pa_cons (pe_bltn (v := V.ty "str") rfl (T.fr 6 rfl) (by decide +kernel) rfl) pa_nil))) (pe_one (pe_cmpR op_in_seq (pv 11) (pv 8) rfl))) (nomark _)) (pss_one (ps_ret pe_bl)) pss_nil)))
 (pss_one (ps_ret (pe_and (pe_cmpR (op_eqU hr.units) (pe_methD0 (pv 7) d_actions hr (by decide)) (pv 8) (nomark _)) (pe_one (pe_cmpR (op_eqU hr.units) (pe_c c_law_classes hr (by decide) rfl (pa_cons (pv 7) pa_nil)) (pe_c c_law_due_classes hr (by decide) rfl (pa_cons (pv 1) (pa_cons (pv 2) pa_nil))) (nomark _)))))))))))))))))), pure vs H Q E h⟩
end

abbrev s_law : Stmt := top 34
abbrev N_law : List Str := ["_law_script", "_law_words", "_law_at", "_law_bag", "_law_word"]
abbrev p_law : List Str := ["_law_script"]
theorem sc_law : FnScope N_law p_law (defScope s_law) := ⟨rfl, rfl, rfl, by decide +kernel, rfl, by decide +kernel, by decide +kernel⟩
def t_law_3 (P : Program) (w : World) (K : PySem.W.Frag) : TS :=
 (tRet (tC (V.bl true)))
def t_law_2 (P : Program) (w : World) (K : PySem.W.Frag) : TS :=
 (tSeq (tFor (iRng1 (tCons (tCB rMax (tCons (tC (V.int 1)) (tCons (tCB rMin (tCons (tC (V.int 3)) (tCons (tCB (rLen K) (tCons (tVar 0) tNil)) tNil))) tNil))) tNil)) (gName 2) (tSeq (tAsg (tCall (spBagged K) [] E0 (tCons (tVar 0) (tCons (tVar 2) tNil))) (gName 3))
 (tFor (iList K (tVar 1)) (gName 4) (tIfS (tNot (tB (tCall (spRight K) [] E0 (tCons (tVar 3) (tCons (tVar 4) (tCons (tVar 1) tNil)))))) (tRet (tC (V.bl false))) tNext))))
 (t_law_3 P w K))
def t_law_1 (P : Program) (w : World) (K : PySem.W.Frag) : TS :=
 (tSeq (tIfS (tTest (tOp (rNeU K) (tCall spTold [] E0 tNil) (tVar 1))) (tRet (tC (V.bl false))) tNext)
 (t_law_2 P w K))
def t_law (P : Program) (w : World) (K : PySem.W.Frag) : TS :=
 (tSeq (tAsg (tLst (tCons (tC (V.str "store")) (tCons (tC (V.str "table")) (tCons (tC (V.str "log")) (tCons (tC (V.str "queue")) (tCons (tC (V.str "answers")) (tCons (tC (V.str "archive")) (tCons (tC (V.str "rolling")) tNil)))))))) (gName 1))
 (t_law_1 P w K))

section
variable {P : Program} {w : World} {K : PySem.W.Frag} {mg : Str → Option Value} {base : Heap}
theorem o_law (T : Tx K mg) (c_law_words_told : Cal P w K mg base 1 "_law_words_told" spTold []) (c_law_bagged : Cal P w K mg base 1 "_law_bagged" (spBagged K) []) (c_law_right : Cal P w K mg base 7 "_law_right" (spRight K) []) {dvs : List V} {kws : List (Str × V)} {f : Addr} {fd : FuncData} (F : FunD K "law" "law" (defArgs s_law) (defBody s_law) (defScope s_law) dvs kws f fd)
    (pure : ∀ vs H Q (E : XK), (spLaw K) vs H Q E → t_law P w K { nx := fun _ H' => Q .non H', rt := Q } (L2.start N_law vs) H) (len : ∀ vs H Q E, (spLaw K) vs H Q E → vs.length = 1) : FnOk P w K mg base CX0 8 f fd p_law (spLaw K) :=
  F.ok sc_law len fun cdv A outer s H vs Q E hr h => ⟨t_law P w K, PSs.nox (by
    unfold t_law t_law_1 t_law_2 t_law_3
    exact (pss_cons (ps_set (i := 1) sc_law.nd rfl (Or.inl rfl) (pe_lst (pa_cons pe_str (pa_cons pe_str (pa_cons pe_str (pa_cons pe_str (pa_cons pe_str (pa_cons pe_str (pa_cons pe_str pa_nil)))))))))
 (pss_cons (ps_if (pt_cmpR (op_neU hr.units) (pe_c0 c_law_words_told hr (by decide) rfl) (pv 1) (nomark _)) (pss_one (ps_ret pe_bl)) pss_nil)
 (pss_cons (ps_for PassesOwn.never rfl (pi_range1 rfl (T.fr 5 rfl) (pa_cons (pe_callB (call_max rfl) rfl (T.fr 4 rfl) (by decide +kernel) (pa_cons pe_int (pa_cons (pe_callB (call_min rfl) rfl (T.fr 3 rfl) (by decide +kernel) (pa_cons pe_int (pa_cons (pe_callB call_lenR rfl (T.fr 1 rfl) (by decide +kernel) (pa_cons (pv 0) pa_nil)) pa_nil))) pa_nil))) pa_nil)) (pg_name (i := 2) sc_law.nd rfl (Or.inl rfl)) (pss_cons (ps_set (i := 3) sc_law.nd rfl (Or.inl rfl) (pe_c c_law_bagged hr (by decide) rfl (pa_cons (pv 0) (pa_cons (pv 2) pa_nil))))
 (pss_one (ps_for PassesOwn.never rfl (pi_list (pv 1)) (pg_name (i := 4) sc_law.nd rfl (Or.inl rfl)) (pss_one (ps_if (pt_not (pt_val (pe_c c_law_right hr (by decide) rfl (pa_cons (pv 3) (pa_cons (pv 4) (pa_cons (pv 1) pa_nil)))))) (pss_one (ps_ret pe_bl)) pss_nil))))))
 (pss_one (ps_ret pe_bl)))))), pure vs H Q E h⟩
end
end E

namespace E
open PySem PySem.Spec PyProof.Rows L2 Evl SX StX He
section
variable {K : PySem.W.Frag} {σ : L2.St} {G G' H : Hp} {M : MM} {D : Ends} {Q : VK} {ta tv : TE} {t tk : TA} {f : Str} {a x C dx : Addr} {fs fs' : List (Str × V)} {v y : V}
theorem Vw.weak (e : Ex G G') (w : Vw M G' H) : Vw M G H := ⟨e.trans w.ex, fun q hq => by
  obtain ⟨g, r⟩ := w.mu q hq
  exact ⟨fresh_back e g, r⟩, w.nd⟩
theorem Vw.at {o : HO} (w : Vw ((x, (· = o)) :: M) G H) : H x = some o := by
  obtain ⟨u, hu, e⟩ := w.get
  rw [hu]
  exact congrArg some e
theorem g_sF (h : tv σ H fun y H1 => ta σ H1 fun x H2 => ∃ a C dx fs, x = .ref a ∧ H2 a = some (.ins C dx fs) ∧ Cls K C ∧ NoAttr K C f ∧ fs.length < 1000 ∧ D.nx σ (upd H2 a (.ins C dx (putF f y fs)))) : sFld K ta tv f D σ H := h
theorem g_fF (h : ta σ H fun x H1 => ∃ a C dx fs v, x = .ref a ∧ H1 a = some (.ins C dx fs) ∧ Cls K C ∧ NoAttr K C f ∧ fs.lookup f = some v ∧ Q v H1) : tFld K ta f σ H Q := h
theorem g_cF (h : ta σ H fun x H1 => ∃ a C dx fs v u, x = .ref a ∧ H1 a = some (.ins C dx fs) ∧ Cls K C ∧ Con K C f v u ∧ fs.lookup f = none ∧ Q v H1) : tCon K ta f σ H Q := h
theorem g_mA {m : Nat} {sp : List V → List V → Hp → VK → XK → Prop} {Er : XK} (h : t σ H fun vs H1 => tk σ H1 fun zs H2 => zs.length = m ∧ ∀ x dx, H2 x = none → H2 dx = none → dx ≠ x →
  sp (.ref x :: vs) zs (upd (upd H2 dx (.own x)) x (.ins C dx [])) (fun v H3 => v = .non ∧ Q (.ref x) H3) Er) : tMakeA C m sp Er t tk σ H Q := h
theorem g_st {m : Nat} {sp : List V → List V → Hp → VK → XK → Prop} {Er : XK} (h : ta σ H fun x H1 => x = .ref C ∧ t σ H1 fun vs H2 => tk σ H2 fun zs H3 => zs.length = m ∧ sp vs zs H3 Q Er) : tStat C m sp Er ta t tk σ H Q := h
theorem g_star {te : TE} {R : List V → Hp → Prop} (h : te σ H fun x H1 => ∃ p xs, x = V.ref p ∧ (SqT K H1 p xs ∨ SqL K H1 p xs) ∧ t σ H1 fun ys H2 => R (xs ++ ys) H2) : tStar K te t σ H R := h
theorem g_rT {te : TE} (h : te σ H fun x H1 => ∃ a xs, x = .ref a ∧ SqT K H1 a xs ∧ ∀ p, H1 p = none → Q (.ref p) (upd H1 p (.tup xs.reverse))) : tRevT K te σ H Q := h
theorem put_fld (w : Vw ((x, (· = .ins C dx fs)) :: M) G H) (c : Cls K C) (n : NoAttr K C f) (hl : fs.length < 1000) (hf : putF f y fs = fs') (h : ∀ H', Vw ((x, (· = .ins C dx fs')) :: M) G H' → D.nx σ H') :
    ∃ a C dx fs, V.ref x = .ref a ∧ H a = some (.ins C dx fs) ∧ Cls K C ∧ NoAttr K C f ∧ fs.length < 1000 ∧ D.nx σ (upd H a (.ins C dx (putF f y fs))) := by
  obtain ⟨o, ho, e⟩ := w.get
  have e' : o = .ins C dx fs := e
  subst e'
  exact ⟨x, C, dx, fs, rfl, ho, c, n, hl, h _ (w.put (by rw [hf]))⟩
theorem get_fld (hH : H a = some (.ins C dx fs)) (c : Cls K C) (n : NoAttr K C f) (hf : fs.lookup f = some v) (q : Q v H) :
    ∃ a' C dx fs v, V.ref a = .ref a' ∧ H a' = some (.ins C dx fs) ∧ Cls K C ∧ NoAttr K C f ∧ fs.lookup f = some v ∧ Q v H := ⟨a, C, dx, fs, v, rfl, hH, c, n, hf, q⟩
theorem get_fldM (w : Vw ((x, (· = .ins C dx fs)) :: M) G H) (c : Cls K C) (n : NoAttr K C f) (hf : fs.lookup f = some v) (q : Q v H) :
    ∃ a' C dx fs v, V.ref x = .ref a' ∧ H a' = some (.ins C dx fs) ∧ Cls K C ∧ NoAttr K C f ∧ fs.lookup f = some v ∧ Q v H := by
  obtain ⟨o, ho, e⟩ := w.get
  have e' : o = .ins C dx fs := e
  subst e'
  exact get_fld ho c n hf q
/-- a new instance and its dict -/
theorem new_ins {R : Addr → Hp → Prop} (w : Vw M G H) (k : ∀ x dx G' H', Ex G G' → Vw ((x, (· = .ins C dx [])) :: M) G' H' → R x H') : ∀ x dx, H x = none → H dx = none → dx ≠ x → R x (upd (upd H dx (.own x)) x (.ins C dx [])) := fun x dx hx hdx hne => by
  have w1 : Vw M (upd G dx (.own x)) (upd H dx (.own x)) := w.new hdx
  exact k x dx _ _ (Ex.new (w.free hdx)) (w1.newM (o := .ins C dx []) (by rw [upd_ne (fun z => hne z.symm)]; exact hx) rfl)
end
end E

namespace E
open PySem L2 Evl SX StX
open PySem.Spec PyProof.Rows He
local macro_rules | `(tactic| walk_at "g1") => `(tactic| first
  | with_reducible refine g_seq ?_
  | with_reducible refine g_asg ?_
  | with_reducible refine g_name ?_
  | with_reducible refine g_c ?_
  | with_reducible refine g_op ?_
  | with_reducible refine g_cons ?_
  | with_reducible refine g_nil ?_
  | with_reducible refine g_cb ?_
  | with_reducible refine g_ret ?_
  | with_reducible refine g_ifS ?_
  | with_reducible refine g_test ?_
  | with_reducible refine g_isB ?_
  | with_reducible refine g_I0 ?_
  | with_reducible refine g_subI ?_
  | with_reducible refine g_ltI ?_
  | with_reducible refine g_leI ?_
  | with_reducible refine g_gtI ?_
  | with_reducible refine g_geI ?_
  | with_reducible refine g_negI ?_
  | with_reducible refine g_isN ?_
  | with_reducible refine g_notN ?_
  | with_reducible refine g_call ?_
  | with_reducible refine g_tup ?_
  | with_reducible refine g_lst ?_
  | with_reducible refine g_sub ?_
  | with_reducible refine g_par ?_
  | with_reducible refine g_m1 ?_
  | with_reducible refine g_yes ?_
  | with_reducible refine g_lc ?_
  | with_reducible refine g_iRng1 ?_
  | with_reducible refine g_iList ?_
  | with_reducible refine g_iTup ?_
  | with_reducible refine g_iStr ?_
  | with_reducible refine g_part ?_
  | with_reducible refine g_gTup ?_
  | with_reducible refine g_gCons ?_
  | with_reducible refine g_gNil ?_
  | with_reducible refine g_tru ?_
  | with_reducible refine g_sl ?_
  | with_reducible refine g_noPart ?_
  | with_reducible refine g_int ?_
  | with_reducible refine g_addI ?_
  | with_reducible refine g_next ?_
  | with_reducible refine g_drop ?_
  | with_reducible refine g_and ?_
  | with_reducible refine g_or ?_
  | with_reducible refine g_not ?_
  | with_reducible refine g_tB ?_
  | with_reducible refine g_andV ?_
  | with_reducible refine g_orV ?_
  | with_reducible refine g_notV ?_
  | with_reducible refine g_if ?_
  | with_reducible refine g_un ?_
  | with_reducible refine g_U ?_
  | with_reducible refine g_chain ?_
  | with_reducible refine g_retN ?_
  | with_reducible refine g_abs ?_
  | with_reducible refine g_min ?_
  | with_reducible refine g_max ?_
  | with_reducible refine iteT ?_
  | with_reducible refine iteF ?_
  | ((with_reducible show tVar _ _ _ _); refine g_var rfl ?_))
local macro_rules | `(tactic| walk_at "g") => `(tactic| repeat (walk_at "g1"))
local macro_rules | `(tactic| walk_at "hp") => `(tactic| repeat (first
  | assumption
  | refine SqL.of ?_
  | refine SqT.of ?_
  | refine Vw.ex (by assumption) _ _ ?_
  | refine (by assumption : Evl.Ex _ _) _ _ ?_))
local macro_rules | `(tactic| walk_at "b") => `(tactic| first
  | with_reducible refine iteT ?_
  | with_reducible refine iteF ?_
  | with_reducible refine b_d (fun h => ?_) (fun h => ?_)
  | with_reducible refine b_n (fun h => ?_) (fun h => ?_)
  | with_reducible refine b_nb (fun h => ?_) (fun h => ?_)
  | with_reducible refine b_b (fun h => ?_) (fun h => ?_))
local macro_rules | `(tactic| walk_at "al") => `(tactic| first
  | with_reducible refine al_T (by assumption) (Nat.le_of_ble_eq_true (by with_unfolding_all rfl)) (fun p G' H' e gp hp w' => ?_)
  | with_reducible refine al_L (by assumption) (Nat.le_of_ble_eq_true (by with_unfolding_all rfl)) (fun p G' H' e gp hp w' => ?_))
local macro_rules | `(tactic| walk_at "ga") => `(tactic| repeat (first | walk_at "g1" | walk_at "al"))
local macro_rules | `(tactic| walk_at "k1") => `(tactic| first
  | walk_at "g1"
  | with_reducible refine g_sF ?_
  | with_reducible refine g_fF ?_
  | with_reducible refine g_cF ?_
  | with_reducible refine g_mA ?_
  | with_reducible refine g_st ?_
  | with_reducible refine g_star ?_
  | with_reducible refine g_rT ?_)
local macro_rules | `(tactic| walk_at "k") => `(tactic| repeat (walk_at "k1"))
section
variable {P : Program} {w : World} {K : PySem.W.Frag}
theorem bV_non {b : Option Str} : (decide (bV b = V.non)) = b.isNone := by cases b <;> rfl
theorem p_Storex_initx' (vs : List V) (H : Hp) (Q : VK) (E : XK) (h : spInit K vs H Q E) : t_Storex_initx P w K { nx := fun _ H' => Q .non H', rt := Q } (L2.start N_Storex_initx vs) H := by
  obtain ⟨x, C, dx, p, q, M, G, s, rfl, w1, ⟨wd, kd⟩, ok, hp, hq, k⟩ := h
  change t_Storex_initx P w K _ [some (.ref x), some (.str s.n), some (bV s.b), some (.ref p), some (.ref q)] H
  unfold t_Storex_initx
  walk_at "k"
  refine ⟨s.n, rfl, ok.n, ?_⟩
  walk_at "k"
  refine put_fld w1 kd.cf.cls (kd.na (by decide)) (by decide) (fs' := [("name", .str s.n)]) rfl fun H1 w2 => ?_
  unfold t_Storex_initx_1
  walk_at "k"
  have rest : ∀ H1, Vw ((x, (· = .ins C dx [("name", .str s.n)])) :: M) G H1 → t_Storex_initx_2 P w K { nx := fun _ H' => Q .non H', rt := Q } [some (.ref x), some (.str s.n), some (bV s.b), some (.ref p), some (.ref q)] H1 := by
    intro H1 w2
    unfold t_Storex_initx_2
    walk_at "k"
    refine put_fld w2 kd.cf.cls (kd.na (by decide)) (Nat.le_of_ble_eq_true rfl) (fs' := [("name", .str s.n), ("under", bV s.b)]) rfl fun H2 w3 => ?_
    unfold t_Storex_initx_3
    walk_at "k"
    refine ⟨p, s.es, rfl, ex_t w3.ex hp, fun x hx => ok.p.1 x (List.mem_append_left _ hx), ?_⟩
    walk_at "k"
    refine put_fld w3 kd.cf.cls (kd.na (by decide)) (Nat.le_of_ble_eq_true rfl) (fs' := [("name", .str s.n), ("under", bV s.b), ("refs", .ref p)]) rfl fun H3 w4 => ?_
    unfold t_Storex_initx_4
    walk_at "k"
    refine ⟨q, s.ps, rfl, ex_t w4.ex hq, fun x hx => ok.p.1 x (List.mem_append_right _ hx), ?_⟩
    walk_at "k"
    refine put_fld w4 kd.cf.cls (kd.na (by decide)) (Nat.le_of_ble_eq_true rfl) (fs' := stF s p q) rfl fun H4 w5 => ?_
    unfold t_Storex_initx_5
    walk_at "k"
    refine ⟨x, C, dx, _, .ref p, rfl, w5.at, kd.cf.cls, kd.na (by decide), rfl, ?_⟩
    refine ⟨p, _, rfl, Or.inl (ex_t w5.ex hp), ?_⟩
    walk_at "k"
    refine ⟨x, C, dx, _, .ref q, rfl, w5.at, kd.cf.cls, kd.na (by decide), rfl, ?_⟩
    refine ⟨q, _, rfl, Or.inl (ex_t w5.ex hq), ?_⟩
    walk_at "k"
    have le := ok.le
    have lp := ok.lp
    refine al_L w5 (by simp only [List.length_append, List.length_map, List.length_nil]; omega) fun l G1 H5 e1 gl hl w6 => ?_
    walk_at "k"
    refine ⟨l, s.es ++ s.ps, _, G1, rfl, w6, Or.inl ?_, ok.p.2, by rw [List.length_append]; omega, fun H6 w7 => ?_⟩
    · rw [List.map_append]
      have := SqL.of (K := K) hl
      rw [List.append_nil] at this
      exact this
    unfold t_Storex_initx_6
    have w8 := w7.weak e1
    walk_at "k"
    refine ⟨x, C, dx, _, .ref p, rfl, w8.at, kd.cf.cls, kd.na (by decide), rfl, ?_⟩
    walk_at "k"
    refine g_lenT (ex_t w8.ex hp) ?_
    walk_at "k"
    refine b_f (decide_eq_false (by rw [List.length_map]; omega)) ?_
    walk_at "k"
    refine ⟨x, C, dx, _, .ref q, rfl, w8.at, kd.cf.cls, kd.na (by decide), rfl, ?_⟩
    walk_at "k"
    refine g_lenT (ex_t w8.ex hq) ?_
    walk_at "k"
    refine b_f (decide_eq_false (by rw [List.length_map]; omega)) ?_
    walk_at "k"
    exact k H6 w8
  rw [bV_non]
  cases hb : s.b with
  | none =>
    rw [hb] at rest
    refine b_f rfl ?_
    walk_at "k"
    exact rest H1 w2
  | some y =>
    rw [hb] at rest
    refine b_t rfl ?_
    walk_at "k"
    exact ⟨y, rfl, ok.b y hb, rest H1 w2⟩
end
end E

namespace E
open PySem L2 Evl SX StX
open PySem.Spec PyProof.Rows He
local macro_rules | `(tactic| walk_at "g1") => `(tactic| first
  | with_reducible refine g_seq ?_
  | with_reducible refine g_asg ?_
  | with_reducible refine g_name ?_
  | with_reducible refine g_c ?_
  | with_reducible refine g_op ?_
  | with_reducible refine g_cons ?_
  | with_reducible refine g_nil ?_
  | with_reducible refine g_cb ?_
  | with_reducible refine g_ret ?_
  | with_reducible refine g_ifS ?_
  | with_reducible refine g_test ?_
  | with_reducible refine g_isB ?_
  | with_reducible refine g_I0 ?_
  | with_reducible refine g_subI ?_
  | with_reducible refine g_ltI ?_
  | with_reducible refine g_leI ?_
  | with_reducible refine g_gtI ?_
  | with_reducible refine g_geI ?_
  | with_reducible refine g_negI ?_
  | with_reducible refine g_isN ?_
  | with_reducible refine g_notN ?_
  | with_reducible refine g_call ?_
  | with_reducible refine g_tup ?_
  | with_reducible refine g_lst ?_
  | with_reducible refine g_sub ?_
  | with_reducible refine g_par ?_
  | with_reducible refine g_m1 ?_
  | with_reducible refine g_yes ?_
  | with_reducible refine g_lc ?_
  | with_reducible refine g_iRng1 ?_
  | with_reducible refine g_iList ?_
  | with_reducible refine g_iTup ?_
  | with_reducible refine g_iStr ?_
  | with_reducible refine g_part ?_
  | with_reducible refine g_gTup ?_
  | with_reducible refine g_gCons ?_
  | with_reducible refine g_gNil ?_
  | with_reducible refine g_tru ?_
  | with_reducible refine g_sl ?_
  | with_reducible refine g_noPart ?_
  | with_reducible refine g_int ?_
  | with_reducible refine g_addI ?_
  | with_reducible refine g_next ?_
  | with_reducible refine g_drop ?_
  | with_reducible refine g_and ?_
  | with_reducible refine g_or ?_
  | with_reducible refine g_not ?_
  | with_reducible refine g_tB ?_
  | with_reducible refine g_andV ?_
  | with_reducible refine g_orV ?_
  | with_reducible refine g_notV ?_
  | with_reducible refine g_if ?_
  | with_reducible refine g_un ?_
  | with_reducible refine g_U ?_
  | with_reducible refine g_chain ?_
  | with_reducible refine g_retN ?_
  | with_reducible refine g_abs ?_
  | with_reducible refine g_min ?_
  | with_reducible refine g_max ?_
  | with_reducible refine iteT ?_
  | with_reducible refine iteF ?_
  | ((with_reducible show tVar _ _ _ _); refine g_var rfl ?_))
local macro_rules | `(tactic| walk_at "g") => `(tactic| repeat (walk_at "g1"))
local macro_rules | `(tactic| walk_at "hp") => `(tactic| repeat (first
  | assumption
  | refine SqL.of ?_
  | refine SqT.of ?_
  | refine Vw.ex (by assumption) _ _ ?_
  | refine (by assumption : Evl.Ex _ _) _ _ ?_))
local macro_rules | `(tactic| walk_at "b") => `(tactic| first
  | with_reducible refine iteT ?_
  | with_reducible refine iteF ?_
  | with_reducible refine b_d (fun h => ?_) (fun h => ?_)
  | with_reducible refine b_n (fun h => ?_) (fun h => ?_)
  | with_reducible refine b_nb (fun h => ?_) (fun h => ?_)
  | with_reducible refine b_b (fun h => ?_) (fun h => ?_))
local macro_rules | `(tactic| walk_at "al") => `(tactic| first
  | with_reducible refine al_T (by assumption) (Nat.le_of_ble_eq_true (by with_unfolding_all rfl)) (fun p G' H' e gp hp w' => ?_)
  | with_reducible refine al_L (by assumption) (Nat.le_of_ble_eq_true (by with_unfolding_all rfl)) (fun p G' H' e gp hp w' => ?_))
local macro_rules | `(tactic| walk_at "ga") => `(tactic| repeat (first | walk_at "g1" | walk_at "al"))
local macro_rules | `(tactic| walk_at "k1") => `(tactic| first
  | walk_at "g1"
  | with_reducible refine g_sF ?_
  | with_reducible refine g_fF ?_
  | with_reducible refine g_cF ?_
  | with_reducible refine g_mA ?_
  | with_reducible refine g_st ?_
  | with_reducible refine g_star ?_
  | with_reducible refine g_rT ?_)
local macro_rules | `(tactic| walk_at "k") => `(tactic| repeat (walk_at "k1"))
section
variable {P : Program} {w : World} {K : PySem.W.Frag} {G H : Hp} {M : MM} {mg : Str → Option Value}
theorem ins_new {x dx C : Addr} (w : Vw M G H) (hx : H x = none) (hdx : H dx = none) (hne : dx ≠ x) : ∃ G', Ex G G' ∧ Vw ((x, (· = .ins C dx [])) :: M) G' (upd (upd H dx (.own x)) x (.ins C dx [])) := by
  have w1 : Vw M (upd G dx (.own x)) (upd H dx (.own x)) := w.new hdx
  exact ⟨_, Ex.new (w.free hdx), w1.newM (o := .ins C dx []) (by rw [upd_ne (fun z => hne z.symm)]; exact hx) rfl⟩
theorem made {C x dx p q : Addr} {s : SD} {k : Str × Str} {H : Hp} {Q : VK} (T : Tx K mg) (hk : k ∈ kinds) (hw : k.2 = s.w) (hC : C = ga K k.1) (ok : SOk s) (w1 : Vw M G H) (hp : SqT K G p (s.es.map V.str)) (hq : SqT K G q (s.ps.map V.str))
    (kk : ∀ x G' H', Ex G G' → StO K G' x s → Vw M G' H' → Q (.ref x) H') (hx : H x = none) (hdx : H dx = none) (hne : dx ≠ x) : spInitK K [.ref x, .str s.n] [bV s.b, .ref p, .ref q] (upd (upd H dx (.own x)) x (.ins C dx [])) (fun v H3 => v = .non ∧ Q (.ref x) H3) E0 := by
  subst hC
  obtain ⟨G1, e1, w2⟩ := ins_new (C := ga K k.1) w1 hx hdx hne
  refine ⟨rfl, x, _, dx, p, q, M, G1, s, rfl, w2, ⟨_, T.kd k hk⟩, ok, ex_t e1 hp, ex_t e1 hq, fun H' w3 => ⟨rfl, ?_⟩⟩
  exact kk x _ H' (e1.trans w3.frz_ex) ⟨k, dx, p, q, ok, hk, hw, upd_same, ex_t (e1.trans w3.frz_ex) hp, ex_t (e1.trans w3.frz_ex) hq⟩ w3.frz
theorem p_law_made_store' (T : Tx K mg) (vs : List V) (H : Hp) (Q : VK) (E : XK) (h : spMade K vs H Q E) : t_law_made_store P w K { nx := fun _ H' => Q .non H', rt := Q } (L2.start N_law_made_store vs) H := by
  obtain ⟨a, M, G, s, rfl, w1, ⟨p, q, ha, hp, hq⟩, ok, k⟩ := h
  change t_law_made_store P w K _ [some (.ref a), none, none, none, none, none] H
  unfold t_law_made_store
  walk_at "k"
  refine ⟨a, _, rfl, ex_t w1.ex ha, rfl, ?_⟩
  walk_at "k"
  unfold t_law_made_store_1
  walk_at "k"
  refine g_eqS rfl ?_
  walk_at "k"
  refine b_d (fun h => ?_) (fun n1 => ?_)
  · walk_at "k"
    exact ⟨rfl, fun x dx hx hdx hne => made T (k := ("Table", "table")) (by decide) (V.str.inj h).symm rfl ok w1 hp hq k hx hdx hne⟩
  walk_at "k"
  unfold t_law_made_store_2
  walk_at "k"
  refine g_eqS rfl ?_
  walk_at "k"
  refine b_d (fun h => ?_) (fun n2 => ?_)
  · walk_at "k"
    exact ⟨rfl, fun x dx hx hdx hne => made T (k := ("Log", "log")) (by decide) (V.str.inj h).symm rfl ok w1 hp hq k hx hdx hne⟩
  walk_at "k"
  unfold t_law_made_store_3
  walk_at "k"
  refine g_eqS rfl ?_
  walk_at "k"
  refine b_d (fun h => ?_) (fun n3 => ?_)
  · walk_at "k"
    exact ⟨rfl, fun x dx hx hdx hne => made T (k := ("Queue", "queue")) (by decide) (V.str.inj h).symm rfl ok w1 hp hq k hx hdx hne⟩
  walk_at "k"
  unfold t_law_made_store_4
  walk_at "k"
  refine g_eqS rfl ?_
  walk_at "k"
  refine b_d (fun h => ?_) (fun n4 => ?_)
  · walk_at "k"
    exact ⟨rfl, fun x dx hx hdx hne => made T (k := ("Answers", "answers")) (by decide) (V.str.inj h).symm rfl ok w1 hp hq k hx hdx hne⟩
  walk_at "k"
  unfold t_law_made_store_5
  walk_at "k"
  refine g_eqS rfl ?_
  walk_at "k"
  refine b_d (fun h => ?_) (fun n5 => ?_)
  · walk_at "k"
    exact ⟨rfl, fun x dx hx hdx hne => made T (k := ("Archive", "archive")) (by decide) (V.str.inj h).symm rfl ok w1 hp hq k hx hdx hne⟩
  walk_at "k"
  unfold t_law_made_store_6
  walk_at "k"
  refine g_eqS rfl ?_
  walk_at "k"
  refine b_d (fun h => ?_) (fun n6 => ?_)
  · walk_at "k"
    exact ⟨rfl, fun x dx hx hdx hne => made T (k := ("Rolling", "rolling")) (by decide) (V.str.inj h).symm rfl ok w1 hp hq k hx hdx hne⟩
  walk_at "k"
  unfold t_law_made_store_7
  walk_at "k"
  have hw : ("store" : Str) = s.w := by
    obtain ⟨k0, h0, e0⟩ := ok.w
    rw [← e0] at n1 n2 n3 n4 n5 n6 ⊢
    simp only [kinds, List.mem_cons, List.not_mem_nil, or_false] at h0
    rcases h0 with rfl | rfl | rfl | rfl | rfl | rfl | rfl
    · rfl
    · exact absurd rfl n1
    · exact absurd rfl n2
    · exact absurd rfl n3
    · exact absurd rfl n4
    · exact absurd rfl n5
    · exact absurd rfl n6
  exact ⟨rfl, fun x dx hx hdx hne => made T (k := ("Store", "store")) (by decide) hw rfl ok w1 hp hq k hx hdx hne⟩
end
end E

namespace E
open PySem PySem.Spec PyProof.Rows L2 Evl SX StX He
section
variable {K : PySem.W.Frag} {M : MM} {G H : Hp} {b : Addr} {σ : L2.St} {te : TE} {x : Nat} {Q : VK}
/-- [te for x in a tuple that stands] -/
theorem lc_tp {a : Addr} {xs : List V} (w : Vw M G H) (hs : SqT K G a xs) (hn : xs.length < 100000) (P : Nat → Hp → V → Prop) (mono : ∀ i G1 G2 v, Ex G1 G2 → P i G1 v → P i G2 v)
    (hw : ∀ v, wipe ((wipe σ [x]).set x (some v)) [x] = wipe σ [x])
    (step : ∀ (i : Nat) (y : V) (G1 H1 : Hp) (D : Addr) (acc : List V) (R : VK), xs[i]? = some y → Ex G G1 → acc.length = i → Vw ((D, (· = .lst acc)) :: M) G1 H1 →
      (∀ v G2 H2, Ex G1 G2 → P i G2 v → Vw ((D, (· = .lst acc)) :: M) G2 H2 → R v H2) → te ((wipe σ [x]).set x (some y)) H1 R)
    (fin : ∀ (D : Addr) (ys : List V) (G1 H1 : Hp), ys.length = xs.length → (∀ (i : Nat) v, ys[i]? = some v → P i G1 v) → Ex G G1 → G D = none → G1 D = some (.lst ys) → Vw M G1 H1 → Q (.ref D) H1) :
    lcG (Itt K a) (gName x) tYes te [x] σ Q H := by
  intro D hD
  have gD : G D = none := w.free hD
  refine lc_tup (K := K) (a := a) (xs := xs) (fun i H' => ∃ (acc : List V) (G1 : Hp), acc.length = i ∧ Ex G G1 ∧ (∀ (j : Nat) v, acc[j]? = some v → P j G1 v) ∧ Vw ((D, (· = .lst acc)) :: M) G1 H')
    ⟨[], G, rfl, Ex.refl G, fun j v h => by simp at h, w.newM hD (φ := (· = .lst [])) rfl⟩ (fun i H' _ ⟨acc, G1, _, e1, _, w1⟩ => ex_t (e1.trans w1.ex) hs) ?_ ?_
  · rintro i y H1 hi ⟨acc, G1, el, e1, hp, w1⟩
    have hlt := (List.getElem?_eq_some_iff.mp hi).1
    refine ⟨hw _, g_yes (iteT ?_)⟩
    refine step i y G1 H1 D acc _ hi e1 el w1 fun v G2 H2 e2 pv w3 => ?_
    obtain ⟨o, ho, eo⟩ := w3.get
    have eo' : o = .lst acc := eo
    subst eo'
    refine ⟨acc, ho, sz_lt (by omega), acc ++ [v], G2, by rw [List.length_append, el]; rfl, e1.trans e2, fun j u h => ?_, w3.put (ψ := (· = .lst (acc ++ [v]))) (o := .lst (acc ++ [v])) rfl⟩
    by_cases hj : j < acc.length
    · rw [List.getElem?_append_left hj] at h
      exact mono _ _ _ _ e2 (hp j u h)
    · have ej : j = acc.length := by
        have := (List.getElem?_eq_some_iff.mp h).1
        rw [List.length_append] at this
        simp at this
        omega
      subst ej
      rw [List.getElem?_append_right (Nat.le_refl _)] at h
      simp at h
      subst h
      rw [el]
      exact pv
  · rintro H1 ⟨acc, G1, el, e1, hp, w2⟩
    exact fin D acc (upd G1 D (.lst acc)) H1 el (fun i v h => mono _ _ _ _ w2.frz_ex (hp i v h)) (e1.trans w2.frz_ex) gD upd_same w2.frz
theorem cut_to1 (xs : List V) : cutV xs none (some 1) = xs.take 1 := by
  show (xs.drop 0).take (min 1 xs.length - 0) = xs.take 1
  rw [List.drop_zero, Nat.sub_zero]
  cases xs with
  | nil => rfl
  | cons a l => rw [Nat.min_eq_left (by simp)]
theorem cut_from1 (xs : List V) : cutV xs (some 1) none = xs.drop 1 := by
  show (xs.drop (min 1 xs.length)).take (xs.length - min 1 xs.length) = xs.drop 1
  cases xs with
  | nil => rfl
  | cons a l =>
    rw [Nat.min_eq_left (by simp)]
    exact List.take_of_length_le (by simp)
theorem cut_to (xs : List V) (j : Nat) : cutV xs none (some (j : Int)) = xs.take j := by
  show (xs.drop 0).take ((if (j : Int) < 0 then ((j : Int) + (xs.length : Int)).toNat else min (j : Int).toNat xs.length) - 0) = xs.take j
  rw [if_neg (by omega), List.drop_zero, Nat.sub_zero, Int.toNat_natCast, ← List.take_take, List.take_length]
theorem cut_mid (xs : List V) (i j : Nat) (h : i ≤ xs.length) : cutV xs (some (i : Int)) (some ((i : Int) + (j : Int))) = (xs.drop i).take j := by
  show (xs.drop (if (i : Int) < 0 then ((i : Int) + (xs.length : Int)).toNat else min (i : Int).toNat xs.length)).take ((if ((i : Int) + (j : Int)) < 0 then ((i : Int) + (j : Int) + (xs.length : Int)).toNat else min ((i : Int) + (j : Int)).toNat xs.length) - (if (i : Int) < 0 then ((i : Int) + (xs.length : Int)).toNat else min (i : Int).toNat xs.length)) = (xs.drop i).take j
  rw [if_neg (by omega), if_neg (by omega), Int.toNat_natCast, Nat.min_eq_left h, show ((i : Int) + (j : Int)).toNat = i + j by omega]
  rw [List.take_eq_take_iff]
  rw [List.length_drop]
  omega
theorem whole_cut {xs : List V} {lo hi : Option Int} (h : HT.sIx xs.length 0 lo = 0 ∧ HT.sIx xs.length xs.length hi = xs.length) : cutV xs lo hi = xs := by
  unfold cutV
  rw [h.1, h.2]
  simp
theorem g_slA {a : Addr} {xs : List V} {lo hi : Option Int} (w : Vw M G H) (h1 : SqT K G a xs) (k : ∀ (p : Addr) (G' H' : Hp), Ex G G' → SqT K G' p (cutV xs lo hi) → Vw M G' H' → Q (.ref p) H') : rSlA K (.ref a) lo hi H Q :=
  ⟨a, xs, rfl, ex_t w.ex h1, fun hw => k a G H (Ex.refl G) (by rw [whole_cut hw]; exact h1) w, fun _ => new_im w fun p G' H' e _ hp w' => k p G' H' e (SqT.of hp) w'⟩
theorem g_catA {a c : Addr} {xs ys : List V} (w : Vw M G H) (h1 : SqT K G a xs) (h2 : SqT K G c ys) (hl : xs.length + ys.length ≤ 100000) (k : ∀ (p : Addr) (G' H' : Hp), Ex G G' → SqT K G' p (xs ++ ys) → Vw M G' H' → Q (.ref p) H') : rCatA K (.ref a) (.ref c) H Q :=
  ⟨a, c, xs, ys, rfl, rfl, ex_t w.ex h1, ex_t w.ex h2, sz_of hl, fun e => k c G H (Ex.refl G) (by rw [e]; exact h2) w, fun _ e => k a G H (Ex.refl G) (by rw [e, List.append_nil]; exact h1) w, fun _ _ => new_im w fun p G' H' e _ hp w' => k p G' H' e (SqT.of hp) w'⟩
/-- what a for loop asks of its walk -/
def forG (J : It) (g : TG) (tb : TS) (D : Ends) (σ : L2.St) (H1 : Hp) : Prop := ∃ W : Nat → Nat → L2.St → Hp → Prop, (∃ m, W 0 m σ H1) ∧ ∀ i m σ H, W i m σ H →
  (J.stop i H ∧ D.nx σ H) ∨ (J.go i H ∧ ∃ N : L2.St → Hp → Prop, (∀ σ' H', N σ' H' → ∃ m', m' < m ∧ W (i + 1) m' σ' H') ∧ ∀ x H', J.yld i H x H' → g x σ H' fun σ2 H2 => tb { D with nx := N, ct := N, bk := D.nx } σ2 H2)
theorem g_for {wi : TI} {g : TG} {tb : TS} {D : Ends} (h : wi σ H fun J H1 => forG J g tb D σ H1) : tFor wi g tb D σ H := h
theorem g_pc {tk tv : TE} {r : List (TE × TE)} {R : List (V × V) → Hp → Prop} (h : tk σ H fun x H1 => tv σ H1 fun y H2 => tPairs r σ H2 fun ps H3 => R ((x, y) :: ps) H3) : tPairs ((tk, tv) :: r) σ H R := h
theorem g_pn {R : List (V × V) → Hp → Prop} (h : R [] H) : tPairs [] σ H R := h
theorem g_dg {td ty tx : TE} (h : td σ H fun x H1 => ∃ a, x = .ref a ∧ IsD H1 a ∧ ty σ H1 fun y H2 => tx σ H2 fun z H3 => ∃ o, DGet H3 a y o ∧ Q (o.getD z) H3) : tDGet2 td ty tx σ H Q := h
theorem g_bm {T : String} {r : V → List V → Hp → VK → Prop} {to : TE} {t : TA} (h : to σ H fun x H1 => tyV K T x H1 ∧ t σ H1 fun xs H2 => r x xs H2 Q) : tBM K T r to t σ H Q := h
theorem inV_strs (y : Str) : ∀ ys : List Str, inV (.str y) (ys.map V.str) = decide (y ∈ ys)
  | [] => rfl
  | z :: ys => by
    have ih := inV_strs y ys
    unfold inV at ih ⊢
    rw [List.map_cons, List.any_cons, ih]
    by_cases h1 : z = y
    · subst h1
      simp [eqV]
    · have h2 : ¬ y = z := fun q => h1 q.symm
      simp [eqV, h1, h2]
theorem g_in {y : Str} {p : Addr} {ys : List Str} (hs : SqL K H p (ys.map V.str)) (h : Q (.bl (decide (y ∈ ys))) H) : rIn K false (.str y) (.ref p) H Q := by
  have e := inV_strs y ys
  refine ⟨p, _, rfl, Or.inl hs, rfl, ?_, ?_⟩
  · rw [List.all_map]
    exact List.all_eq_true.mpr fun z _ => rfl
  · show Q (.bl (inV (.str y) (ys.map V.str))) H
    rw [e]
    exact h
theorem g_nin {y : Str} {p : Addr} {ys : List Str} (hs : SqL K H p (ys.map V.str)) (h : Q (.bl (!decide (y ∈ ys))) H) : rIn K true (.str y) (.ref p) H Q := by
  obtain ⟨p', xs, e, a, b, c, d⟩ := g_in (Q := fun v H' => ∃ r, v = .bl r ∧ Q (.bl (!r)) H') (y := y) hs ⟨_, rfl, h⟩
  obtain ⟨r, er, d⟩ := d
  refine ⟨p', xs, e, a, b, c, ?_⟩
  have er' : inV (.str y) xs = r := V.bl.inj er
  show Q (.bl (!inV (.str y) xs)) H
  rw [er']
  exact d
end
end E

namespace E
open PySem L2 Evl SX StX
open PySem.Spec PyProof.Rows He
local macro_rules | `(tactic| walk_at "g1") => `(tactic| first
  | with_reducible refine g_seq ?_
  | with_reducible refine g_asg ?_
  | with_reducible refine g_name ?_
  | with_reducible refine g_c ?_
  | with_reducible refine g_op ?_
  | with_reducible refine g_cons ?_
  | with_reducible refine g_nil ?_
  | with_reducible refine g_cb ?_
  | with_reducible refine g_ret ?_
  | with_reducible refine g_ifS ?_
  | with_reducible refine g_test ?_
  | with_reducible refine g_isB ?_
  | with_reducible refine g_I0 ?_
  | with_reducible refine g_subI ?_
  | with_reducible refine g_ltI ?_
  | with_reducible refine g_leI ?_
  | with_reducible refine g_gtI ?_
  | with_reducible refine g_geI ?_
  | with_reducible refine g_negI ?_
  | with_reducible refine g_isN ?_
  | with_reducible refine g_notN ?_
  | with_reducible refine g_call ?_
  | with_reducible refine g_tup ?_
  | with_reducible refine g_lst ?_
  | with_reducible refine g_sub ?_
  | with_reducible refine g_par ?_
  | with_reducible refine g_m1 ?_
  | with_reducible refine g_yes ?_
  | with_reducible refine g_lc ?_
  | with_reducible refine g_iRng1 ?_
  | with_reducible refine g_iList ?_
  | with_reducible refine g_iTup ?_
  | with_reducible refine g_iStr ?_
  | with_reducible refine g_part ?_
  | with_reducible refine g_gTup ?_
  | with_reducible refine g_gCons ?_
  | with_reducible refine g_gNil ?_
  | with_reducible refine g_tru ?_
  | with_reducible refine g_sl ?_
  | with_reducible refine g_noPart ?_
  | with_reducible refine g_int ?_
  | with_reducible refine g_addI ?_
  | with_reducible refine g_next ?_
  | with_reducible refine g_drop ?_
  | with_reducible refine g_and ?_
  | with_reducible refine g_or ?_
  | with_reducible refine g_not ?_
  | with_reducible refine g_tB ?_
  | with_reducible refine g_andV ?_
  | with_reducible refine g_orV ?_
  | with_reducible refine g_notV ?_
  | with_reducible refine g_if ?_
  | with_reducible refine g_un ?_
  | with_reducible refine g_U ?_
  | with_reducible refine g_chain ?_
  | with_reducible refine g_retN ?_
  | with_reducible refine g_abs ?_
  | with_reducible refine g_min ?_
  | with_reducible refine g_max ?_
  | with_reducible refine iteT ?_
  | with_reducible refine iteF ?_
  | ((with_reducible show tVar _ _ _ _); refine g_var rfl ?_))
local macro_rules | `(tactic| walk_at "g") => `(tactic| repeat (walk_at "g1"))
local macro_rules | `(tactic| walk_at "hp") => `(tactic| repeat (first
  | assumption
  | refine SqL.of ?_
  | refine SqT.of ?_
  | refine Vw.ex (by assumption) _ _ ?_
  | refine (by assumption : Evl.Ex _ _) _ _ ?_))
local macro_rules | `(tactic| walk_at "b") => `(tactic| first
  | with_reducible refine iteT ?_
  | with_reducible refine iteF ?_
  | with_reducible refine b_d (fun h => ?_) (fun h => ?_)
  | with_reducible refine b_n (fun h => ?_) (fun h => ?_)
  | with_reducible refine b_nb (fun h => ?_) (fun h => ?_)
  | with_reducible refine b_b (fun h => ?_) (fun h => ?_))
local macro_rules | `(tactic| walk_at "al") => `(tactic| first
  | with_reducible refine al_T (by assumption) (Nat.le_of_ble_eq_true (by with_unfolding_all rfl)) (fun p G' H' e gp hp w' => ?_)
  | with_reducible refine al_L (by assumption) (Nat.le_of_ble_eq_true (by with_unfolding_all rfl)) (fun p G' H' e gp hp w' => ?_))
local macro_rules | `(tactic| walk_at "ga") => `(tactic| repeat (first | walk_at "g1" | walk_at "al"))
local macro_rules | `(tactic| walk_at "k1") => `(tactic| first
  | walk_at "g1"
  | with_reducible refine g_sF ?_
  | with_reducible refine g_fF ?_
  | with_reducible refine g_cF ?_
  | with_reducible refine g_mA ?_
  | with_reducible refine g_st ?_
  | with_reducible refine g_star ?_
  | with_reducible refine g_rT ?_)
local macro_rules | `(tactic| walk_at "k") => `(tactic| repeat (walk_at "k1"))
local macro_rules | `(tactic| walk_at "f1") => `(tactic| first
  | walk_at "k1"
  | with_reducible refine g_for ?_)
local macro_rules | `(tactic| walk_at "f") => `(tactic| repeat (walk_at "f1"))
local macro_rules | `(tactic| walk_at "m1") => `(tactic| first
  | walk_at "f1"
  | with_reducible refine g_mD ?_
  | with_reducible refine g_cV ?_
  | with_reducible refine g_pc ?_
  | with_reducible refine g_pn ?_
  | with_reducible refine g_dg ?_
  | with_reducible refine g_bm ?_)
local macro_rules | `(tactic| walk_at "m") => `(tactic| repeat (walk_at "m1"))
section
variable {P : Program} {w : World} {K : PySem.W.Frag} {G H : Hp} {M : MM} {mg : Str → Option Value}
theorem p_Store_actions' (vs : List V) (H : Hp) (Q : VK) (E : XK) (h : (spActs ["blank", "change", "cut", "delete", "drop"]) vs H Q E) : t_Store_actions P w K { nx := fun _ H' => Q .non H', rt := Q } (L2.start N_Store_actions vs) H := by
  obtain ⟨v, rfl, q⟩ := h
  change t_Store_actions P w K _ [some v] H
  unfold t_Store_actions
  walk_at "m"
  exact q

theorem p_Store_vanishes' (vs : List V) (H : Hp) (Q : VK) (E : XK) (h : (spB false) vs H Q E) : t_Store_vanishes P w K { nx := fun _ H' => Q .non H', rt := Q } (L2.start N_Store_vanishes vs) H := by
  obtain ⟨v, rfl, q⟩ := h
  change t_Store_vanishes P w K _ [some v] H
  unfold t_Store_vanishes
  walk_at "m"
  exact q

theorem p_Store_counts' (vs : List V) (H : Hp) (Q : VK) (E : XK) (h : (spB true) vs H Q E) : t_Store_counts P w K { nx := fun _ H' => Q .non H', rt := Q } (L2.start N_Store_counts vs) H := by
  obtain ⟨v, rfl, q⟩ := h
  change t_Store_counts P w K _ [some v] H
  unfold t_Store_counts
  walk_at "m"
  exact q

theorem p_Table_vanishes' (vs : List V) (H : Hp) (Q : VK) (E : XK) (h : (spB false) vs H Q E) : t_Table_vanishes P w K { nx := fun _ H' => Q .non H', rt := Q } (L2.start N_Table_vanishes vs) H := by
  obtain ⟨v, rfl, q⟩ := h
  change t_Table_vanishes P w K _ [some v] H
  unfold t_Table_vanishes
  walk_at "m"
  exact q

theorem p_Table_counts' (vs : List V) (H : Hp) (Q : VK) (E : XK) (h : (spB true) vs H Q E) : t_Table_counts P w K { nx := fun _ H' => Q .non H', rt := Q } (L2.start N_Table_counts vs) H := by
  obtain ⟨v, rfl, q⟩ := h
  change t_Table_counts P w K _ [some v] H
  unfold t_Table_counts
  walk_at "m"
  exact q

theorem p_Log_actions' (vs : List V) (H : Hp) (Q : VK) (E : XK) (h : (spActs ["blank", "cut"]) vs H Q E) : t_Log_actions P w K { nx := fun _ H' => Q .non H', rt := Q } (L2.start N_Log_actions vs) H := by
  obtain ⟨v, rfl, q⟩ := h
  change t_Log_actions P w K _ [some v] H
  unfold t_Log_actions
  walk_at "m"
  exact q

theorem p_Log_vanishes' (vs : List V) (H : Hp) (Q : VK) (E : XK) (h : (spB false) vs H Q E) : t_Log_vanishes P w K { nx := fun _ H' => Q .non H', rt := Q } (L2.start N_Log_vanishes vs) H := by
  obtain ⟨v, rfl, q⟩ := h
  change t_Log_vanishes P w K _ [some v] H
  unfold t_Log_vanishes
  walk_at "m"
  exact q

theorem p_Log_counts' (vs : List V) (H : Hp) (Q : VK) (E : XK) (h : (spB true) vs H Q E) : t_Log_counts P w K { nx := fun _ H' => Q .non H', rt := Q } (L2.start N_Log_counts vs) H := by
  obtain ⟨v, rfl, q⟩ := h
  change t_Log_counts P w K _ [some v] H
  unfold t_Log_counts
  walk_at "m"
  exact q

theorem p_Queue_actions' (vs : List V) (H : Hp) (Q : VK) (E : XK) (h : (spActs ["delete", "drop"]) vs H Q E) : t_Queue_actions P w K { nx := fun _ H' => Q .non H', rt := Q } (L2.start N_Queue_actions vs) H := by
  obtain ⟨v, rfl, q⟩ := h
  change t_Queue_actions P w K _ [some v] H
  unfold t_Queue_actions
  walk_at "m"
  exact q

theorem p_Queue_vanishes' (vs : List V) (H : Hp) (Q : VK) (E : XK) (h : (spB false) vs H Q E) : t_Queue_vanishes P w K { nx := fun _ H' => Q .non H', rt := Q } (L2.start N_Queue_vanishes vs) H := by
  obtain ⟨v, rfl, q⟩ := h
  change t_Queue_vanishes P w K _ [some v] H
  unfold t_Queue_vanishes
  walk_at "m"
  exact q

theorem p_Queue_counts' (vs : List V) (H : Hp) (Q : VK) (E : XK) (h : (spB true) vs H Q E) : t_Queue_counts P w K { nx := fun _ H' => Q .non H', rt := Q } (L2.start N_Queue_counts vs) H := by
  obtain ⟨v, rfl, q⟩ := h
  change t_Queue_counts P w K _ [some v] H
  unfold t_Queue_counts
  walk_at "m"
  exact q

theorem p_Answers_actions' (vs : List V) (H : Hp) (Q : VK) (E : XK) (h : (spActs ["delete", "drop"]) vs H Q E) : t_Answers_actions P w K { nx := fun _ H' => Q .non H', rt := Q } (L2.start N_Answers_actions vs) H := by
  obtain ⟨v, rfl, q⟩ := h
  change t_Answers_actions P w K _ [some v] H
  unfold t_Answers_actions
  walk_at "m"
  exact q

theorem p_Answers_vanishes' (vs : List V) (H : Hp) (Q : VK) (E : XK) (h : (spB true) vs H Q E) : t_Answers_vanishes P w K { nx := fun _ H' => Q .non H', rt := Q } (L2.start N_Answers_vanishes vs) H := by
  obtain ⟨v, rfl, q⟩ := h
  change t_Answers_vanishes P w K _ [some v] H
  unfold t_Answers_vanishes
  walk_at "m"
  exact q

theorem p_Answers_counts' (vs : List V) (H : Hp) (Q : VK) (E : XK) (h : (spB true) vs H Q E) : t_Answers_counts P w K { nx := fun _ H' => Q .non H', rt := Q } (L2.start N_Answers_counts vs) H := by
  obtain ⟨v, rfl, q⟩ := h
  change t_Answers_counts P w K _ [some v] H
  unfold t_Answers_counts
  walk_at "m"
  exact q

theorem p_Archive_actions' (vs : List V) (H : Hp) (Q : VK) (E : XK) (h : (spActs ["drop"]) vs H Q E) : t_Archive_actions P w K { nx := fun _ H' => Q .non H', rt := Q } (L2.start N_Archive_actions vs) H := by
  obtain ⟨v, rfl, q⟩ := h
  change t_Archive_actions P w K _ [some v] H
  unfold t_Archive_actions
  walk_at "m"
  exact q

theorem p_Archive_vanishes' (vs : List V) (H : Hp) (Q : VK) (E : XK) (h : (spB false) vs H Q E) : t_Archive_vanishes P w K { nx := fun _ H' => Q .non H', rt := Q } (L2.start N_Archive_vanishes vs) H := by
  obtain ⟨v, rfl, q⟩ := h
  change t_Archive_vanishes P w K _ [some v] H
  unfold t_Archive_vanishes
  walk_at "m"
  exact q

theorem p_Archive_counts' (vs : List V) (H : Hp) (Q : VK) (E : XK) (h : (spB false) vs H Q E) : t_Archive_counts P w K { nx := fun _ H' => Q .non H', rt := Q } (L2.start N_Archive_counts vs) H := by
  obtain ⟨v, rfl, q⟩ := h
  change t_Archive_counts P w K _ [some v] H
  unfold t_Archive_counts
  walk_at "m"
  exact q

theorem p_Rolling_vanishes' (vs : List V) (H : Hp) (Q : VK) (E : XK) (h : (spB true) vs H Q E) : t_Rolling_vanishes P w K { nx := fun _ H' => Q .non H', rt := Q } (L2.start N_Rolling_vanishes vs) H := by
  obtain ⟨v, rfl, q⟩ := h
  change t_Rolling_vanishes P w K _ [some v] H
  unfold t_Rolling_vanishes
  walk_at "m"
  refine ⟨rfl, ?_⟩
  walk_at "m"
  exact ⟨rfl, rfl, v, rfl, q⟩

theorem acts_0 : acts "store" = (["blank", "change", "cut", "delete", "drop"] : List Str) := by decide
theorem acts_1 : acts "table" = (["blank", "change", "cut", "delete", "drop"] : List Str) := by decide
theorem acts_2 : acts "log" = (["blank", "cut"] : List Str) := by decide
theorem acts_3 : acts "queue" = (["delete", "drop"] : List Str) := by decide
theorem acts_4 : acts "answers" = (["delete", "drop"] : List Str) := by decide
theorem acts_5 : acts "archive" = (["drop"] : List Str) := by decide
theorem acts_6 : acts "rolling" = (["drop"] : List Str) := by decide
theorem acts_len (w : Str) : (acts w).length ≤ 5 := by
  unfold acts
  split
  · decide
  · split
    · decide
    · split <;> decide
theorem p_Storex_containsx' (T : Tx K mg) (vs : List V) (H : Hp) (Q : VK) (E : XK) (h : spContains K vs H Q E) : t_Storex_containsx P w K { nx := fun _ H' => Q .non H', rt := Q } (L2.start N_Storex_containsx vs) H := by
  obtain ⟨x, v, M, G, s, rfl, w1, ⟨k1, dx, p, q, ok, hk, ew, h1, h2, h3⟩, hv, kk⟩ := h
  change t_Storex_containsx P w K _ [some (.ref x), some v] H
  unfold t_Storex_containsx
  walk_at "m"
  refine g_isiStr (hv.mono w1.ex) ?_
  walk_at "m"
  refine b_b (fun hs => ?_) (fun hs => ?_)
  · obtain ⟨y, rfl⟩ : ∃ y, v = .str y := by cases v <;> first | exact ⟨_, rfl⟩ | cases hs
    walk_at "m"
    refine ⟨x, _, dx, _, rfl, List.mem_map.mpr ⟨k1, hk, rfl⟩, w1.ex _ _ h1, rfl, ?_⟩
    walk_at "m"
    refine ⟨⟨dx, _, w1.ex _ _ h1⟩, x, k1, dx, _, rfl, hk, w1.ex _ _ h1, ?_⟩
    refine al_L w1 (by rw [List.length_map]; have := acts_len k1.2; omega) fun l G1 H1 e1 _ hl w2 => ?_
    refine g_in (SqL.of (w2.ex _ _ hl)) ?_
    have z := kk H1 (w2.weak e1)
    rw [← ew] at z
    exact z
  · have z := kk H w1
    have e : inA s.w v = false := by cases v <;> first | rfl | cases hs
    rw [e] at z
    exact z
theorem p_law_words_told' (T : Tx K mg) (vs : List V) (H : Hp) (Q : VK) (E : XK) (h : spTold vs H Q E) : t_law_words_told P w K { nx := fun _ H' => Q .non H', rt := Q } (L2.start N_law_words_told vs) H := by
  obtain ⟨M, G, rfl, w1, k⟩ := h
  change t_law_words_told P w K _ [] H
  obtain ⟨m0, u0, r0, c0⟩ := (T.kd ("Store", "store") (by decide)).cv
  obtain ⟨m1, u1, r1, c1⟩ := (T.kd ("Table", "table") (by decide)).cv
  obtain ⟨m2, u2, r2, c2⟩ := (T.kd ("Log", "log") (by decide)).cv
  obtain ⟨m3, u3, r3, c3⟩ := (T.kd ("Queue", "queue") (by decide)).cv
  obtain ⟨m4, u4, r4, c4⟩ := (T.kd ("Answers", "answers") (by decide)).cv
  obtain ⟨m5, u5, r5, c5⟩ := (T.kd ("Archive", "archive") (by decide)).cv
  obtain ⟨m6, u6, r6, c6⟩ := (T.kd ("Rolling", "rolling") (by decide)).cv
  unfold t_law_words_told
  walk_at "m"
  refine ⟨_, m0, _, u0, rfl, r0, c0, ?_⟩
  walk_at "m"
  refine ⟨_, m1, _, u1, rfl, r1, c1, ?_⟩
  walk_at "m"
  refine ⟨_, m2, _, u2, rfl, r2, c2, ?_⟩
  walk_at "m"
  refine ⟨_, m3, _, u3, rfl, r3, c3, ?_⟩
  walk_at "m"
  refine ⟨_, m4, _, u4, rfl, r4, c4, ?_⟩
  walk_at "m"
  refine ⟨_, m5, _, u5, rfl, r5, c5, ?_⟩
  walk_at "m"
  refine ⟨_, m6, _, u6, rfl, r6, c6, ?_⟩
  walk_at "m"
  exact al_L w1 (Nat.le_of_ble_eq_true rfl) fun p G1 H1 e1 _ hp w2 => k p G1 H1 e1 hp w2

end
end E

namespace E
open PySem L2 Evl SX StX
open PySem.Spec PyProof.Rows He
local macro_rules | `(tactic| walk_at "g1") => `(tactic| first
  | with_reducible refine g_seq ?_
  | with_reducible refine g_asg ?_
  | with_reducible refine g_name ?_
  | with_reducible refine g_c ?_
  | with_reducible refine g_op ?_
  | with_reducible refine g_cons ?_
  | with_reducible refine g_nil ?_
  | with_reducible refine g_cb ?_
  | with_reducible refine g_ret ?_
  | with_reducible refine g_ifS ?_
  | with_reducible refine g_test ?_
  | with_reducible refine g_isB ?_
  | with_reducible refine g_I0 ?_
  | with_reducible refine g_subI ?_
  | with_reducible refine g_ltI ?_
  | with_reducible refine g_leI ?_
  | with_reducible refine g_gtI ?_
  | with_reducible refine g_geI ?_
  | with_reducible refine g_negI ?_
  | with_reducible refine g_isN ?_
  | with_reducible refine g_notN ?_
  | with_reducible refine g_call ?_
  | with_reducible refine g_tup ?_
  | with_reducible refine g_lst ?_
  | with_reducible refine g_sub ?_
  | with_reducible refine g_par ?_
  | with_reducible refine g_m1 ?_
  | with_reducible refine g_yes ?_
  | with_reducible refine g_lc ?_
  | with_reducible refine g_iRng1 ?_
  | with_reducible refine g_iList ?_
  | with_reducible refine g_iTup ?_
  | with_reducible refine g_iStr ?_
  | with_reducible refine g_part ?_
  | with_reducible refine g_gTup ?_
  | with_reducible refine g_gCons ?_
  | with_reducible refine g_gNil ?_
  | with_reducible refine g_tru ?_
  | with_reducible refine g_sl ?_
  | with_reducible refine g_noPart ?_
  | with_reducible refine g_int ?_
  | with_reducible refine g_addI ?_
  | with_reducible refine g_next ?_
  | with_reducible refine g_drop ?_
  | with_reducible refine g_and ?_
  | with_reducible refine g_or ?_
  | with_reducible refine g_not ?_
  | with_reducible refine g_tB ?_
  | with_reducible refine g_andV ?_
  | with_reducible refine g_orV ?_
  | with_reducible refine g_notV ?_
  | with_reducible refine g_if ?_
  | with_reducible refine g_un ?_
  | with_reducible refine g_U ?_
  | with_reducible refine g_chain ?_
  | with_reducible refine g_retN ?_
  | with_reducible refine g_abs ?_
  | with_reducible refine g_min ?_
  | with_reducible refine g_max ?_
  | with_reducible refine iteT ?_
  | with_reducible refine iteF ?_
  | ((with_reducible show tVar _ _ _ _); refine g_var rfl ?_))
local macro_rules | `(tactic| walk_at "g") => `(tactic| repeat (walk_at "g1"))
local macro_rules | `(tactic| walk_at "hp") => `(tactic| repeat (first
  | assumption
  | refine SqL.of ?_
  | refine SqT.of ?_
  | refine Vw.ex (by assumption) _ _ ?_
  | refine (by assumption : Evl.Ex _ _) _ _ ?_))
local macro_rules | `(tactic| walk_at "b") => `(tactic| first
  | with_reducible refine iteT ?_
  | with_reducible refine iteF ?_
  | with_reducible refine b_d (fun h => ?_) (fun h => ?_)
  | with_reducible refine b_n (fun h => ?_) (fun h => ?_)
  | with_reducible refine b_nb (fun h => ?_) (fun h => ?_)
  | with_reducible refine b_b (fun h => ?_) (fun h => ?_))
local macro_rules | `(tactic| walk_at "al") => `(tactic| first
  | with_reducible refine al_T (by assumption) (Nat.le_of_ble_eq_true (by with_unfolding_all rfl)) (fun p G' H' e gp hp w' => ?_)
  | with_reducible refine al_L (by assumption) (Nat.le_of_ble_eq_true (by with_unfolding_all rfl)) (fun p G' H' e gp hp w' => ?_))
local macro_rules | `(tactic| walk_at "ga") => `(tactic| repeat (first | walk_at "g1" | walk_at "al"))
local macro_rules | `(tactic| walk_at "k1") => `(tactic| first
  | walk_at "g1"
  | with_reducible refine g_sF ?_
  | with_reducible refine g_fF ?_
  | with_reducible refine g_cF ?_
  | with_reducible refine g_mA ?_
  | with_reducible refine g_st ?_
  | with_reducible refine g_star ?_
  | with_reducible refine g_rT ?_)
local macro_rules | `(tactic| walk_at "k") => `(tactic| repeat (walk_at "k1"))
local macro_rules | `(tactic| walk_at "f1") => `(tactic| first
  | walk_at "k1"
  | with_reducible refine g_for ?_)
local macro_rules | `(tactic| walk_at "f") => `(tactic| repeat (walk_at "f1"))
local macro_rules | `(tactic| walk_at "m1") => `(tactic| first
  | walk_at "f1"
  | with_reducible refine g_mD ?_
  | with_reducible refine g_cV ?_
  | with_reducible refine g_pc ?_
  | with_reducible refine g_pn ?_
  | with_reducible refine g_dg ?_
  | with_reducible refine g_bm ?_)
local macro_rules | `(tactic| walk_at "m") => `(tactic| repeat (walk_at "m1"))
section
variable {P : Program} {w : World} {K : PySem.W.Frag} {G H : Hp} {M : MM} {mg : Str → Option Value}
theorem p_law_actions' (vs : List V) (H : Hp) (Q : VK) (E : XK) (h : spLActs vs H Q E) : t_law_actions P w K { nx := fun _ H' => Q .non H', rt := Q } (L2.start N_law_actions vs) H := by
  obtain ⟨wd, M, G, rfl, w1, ⟨k0, hk, ek⟩, k⟩ := h
  change t_law_actions P w K _ [some (.str wd), none, none] H
  unfold t_law_actions
  walk_at "m"
  refine al_L w1 (Nat.le_of_ble_eq_true rfl) fun l1 G1 H1 e1 _ hl1 w2 => ?_
  walk_at "m"
  unfold t_law_actions_1
  with_reducible refine g_seq ?_
  with_reducible refine g_asg ?_
  intro p hp
  have w3 := w2.newM (φ := (· = .dK [])) (o := .dK []) hp rfl
  generalize upd H1 p (.dK []) = H2 at w3 ⊢
  walk_at "m"
  refine al_L w3 (Nat.le_of_ble_eq_true rfl) fun l2 G2 H3 e2 _ hl2 w4 => ?_
  walk_at "m"
  refine al_L w4 (Nat.le_of_ble_eq_true rfl) fun l3 G3 H4 e3 _ hl3 w5 => ?_
  walk_at "m"
  refine ⟨w5.at, [(Sum.inr "store", .ref l1), (Sum.inr "table", .ref l1), (Sum.inr "log", .ref l2), (Sum.inr "queue", .ref l3)], rfl, Nat.le_of_ble_eq_true rfl, ?_⟩
  walk_at "m"
  have w6 := (w5.put (ψ := (· = .dK (mergeK [] [((Sum.inr "store" : Key), V.ref l1), (Sum.inr "table", .ref l1), (Sum.inr "log", .ref l2), (Sum.inr "queue", .ref l3)]))) rfl)
  generalize upd H4 p (.dK (mergeK [] [((Sum.inr "store" : Key), V.ref l1), (Sum.inr "table", .ref l1), (Sum.inr "log", .ref l2), (Sum.inr "queue", .ref l3)])) = H5 at w6 ⊢
  have e4 := w6.frz_ex (o := .dK (mergeK [] [((Sum.inr "store" : Key), V.ref l1), (Sum.inr "table", .ref l1), (Sum.inr "log", .ref l2), (Sum.inr "queue", .ref l3)]))
  have hp6 := w6.at
  have w7 := w6.tail
  unfold t_law_actions_2
  walk_at "m"
  refine ⟨p, rfl, Or.inl ⟨_, Or.inl hp6⟩, ?_⟩
  walk_at "m"
  refine g_eqS rfl ?_
  walk_at "m"
  have hl1' : G3 l1 = some (.lst ((["blank", "change", "cut", "delete", "drop"] : List Str).map V.str)) := e3 _ _ (e2 _ _ hl1)
  have hl2' : G3 l2 = some (.lst ((["blank", "cut"] : List Str).map V.str)) := e3 _ _ hl2
  have fin : ∀ (z l : Addr) (G5 H6 : Hp) (ys : List Str), Ex G3 G5 → G5 l = some (.lst (ys.map V.str)) → Vw M G5 H6 → acts wd = ys → rLstOf K [.ref l] H6 Q := by
    intro z l G5 H6 ys e5 hl w8 ea
    refine g_lstOfL w8 (SqL.of hl) fun p9 G6 H7 e6 _ hp9 w9 => ?_
    exact k p9 G6 H7 (((e1.trans e2).trans e3).trans (e5.trans e6)) (by rw [ea]; exact hp9) w9
  simp only [kinds, List.mem_cons, List.not_mem_nil, or_false] at hk
  rcases hk with rfl | rfl | rfl | rfl | rfl | rfl | rfl <;> subst ek
  · refine b_f (by decide) ?_
    walk_at "m"
    refine al_L w6 (Nat.le_of_ble_eq_true rfl) fun l4 G5 H6 e5 _ hl4 w8 => ?_
    refine ⟨_, DGet.k (k := Sum.inr "store") w8.at, ?_⟩
    walk_at "m"
    exact fin l4 l1 G5 H6 _ e5 (e5 _ _ hl1') w8.tail acts_0
  · refine b_f (by decide) ?_
    walk_at "m"
    refine al_L w6 (Nat.le_of_ble_eq_true rfl) fun l4 G5 H6 e5 _ hl4 w8 => ?_
    refine ⟨_, DGet.k (k := Sum.inr "table") w8.at, ?_⟩
    walk_at "m"
    exact fin l4 l1 G5 H6 _ e5 (e5 _ _ hl1') w8.tail acts_1
  · refine b_f (by decide) ?_
    walk_at "m"
    refine al_L w6 (Nat.le_of_ble_eq_true rfl) fun l4 G5 H6 e5 _ hl4 w8 => ?_
    refine ⟨_, DGet.k (k := Sum.inr "log") w8.at, ?_⟩
    walk_at "m"
    exact fin l4 l2 G5 H6 _ e5 (e5 _ _ hl2') w8.tail acts_2
  · refine b_f (by decide) ?_
    walk_at "m"
    refine al_L w6 (Nat.le_of_ble_eq_true rfl) fun l4 G5 H6 e5 _ hl4 w8 => ?_
    refine ⟨_, DGet.k (k := Sum.inr "queue") w8.at, ?_⟩
    walk_at "m"
    exact fin l4 l3 G5 H6 (["delete", "drop"] : List Str) e5 (e5 _ _ hl3) w8.tail acts_3
  · refine b_t (by decide) ?_
    walk_at "m"
    refine al_L w6 (Nat.le_of_ble_eq_true rfl) fun l4 G5 H6 e5 _ hl4 w8 => ?_
    refine ⟨_, DGet.k (k := Sum.inr "answers") w8.at, ?_⟩
    walk_at "m"
    exact fin l4 l4 G5 H6 (["delete", "drop"] : List Str) e5 hl4 w8.tail acts_4
  · refine b_f (by decide) ?_
    walk_at "m"
    refine al_L w6 (Nat.le_of_ble_eq_true rfl) fun l4 G5 H6 e5 _ hl4 w8 => ?_
    refine ⟨_, DGet.k (k := Sum.inr "archive") w8.at, ?_⟩
    walk_at "m"
    exact fin l4 l4 G5 H6 (["drop"] : List Str) e5 hl4 w8.tail acts_5
  · refine b_f (by decide) ?_
    walk_at "m"
    refine al_L w6 (Nat.le_of_ble_eq_true rfl) fun l4 G5 H6 e5 _ hl4 w8 => ?_
    refine ⟨_, DGet.k (k := Sum.inr "rolling") w8.at, ?_⟩
    walk_at "m"
    exact fin l4 l4 G5 H6 (["drop"] : List Str) e5 hl4 w8.tail acts_6
theorem isi_k {x : Addr} {s : SD} {Q : VK} (T : Tx K mg) (w1 : Vw M G H) (hx : StO K G x s) (k : Str × Str) (hk : k ∈ kinds) (q : Q (.bl (below s.w k.2)) H) : rIsi K [.ref x, .ref (ga K k.1)] H Q := by
  obtain ⟨k1, dx, p, q', ok, hk1, ew, h1, h2, h3⟩ := hx
  refine ⟨_, _, _, _, _, rfl, .own _, (T.kd k1 hk1).cf.ty (w1.ex _ _ h1), T.ki k1 hk1 k hk, ?_⟩
  rw [ew]
  exact q
theorem p_law_classes' (T : Tx K mg) (vs : List V) (H : Hp) (Q : VK) (E : XK) (h : spClasses K vs H Q E) : t_law_classes P w K { nx := fun _ H' => Q .non H', rt := Q } (L2.start N_law_classes vs) H := by
  obtain ⟨x, M, G, s, rfl, w1, hx, k⟩ := h
  change t_law_classes P w K _ [some (.ref x), none] H
  unfold t_law_classes
  walk_at "m"
  refine isi_k T w1 hx ("Store", "store") (by decide) ?_
  walk_at "m"
  refine isi_k T w1 hx ("Table", "table") (by decide) ?_
  walk_at "m"
  refine isi_k T w1 hx ("Log", "log") (by decide) ?_
  walk_at "m"
  refine isi_k T w1 hx ("Queue", "queue") (by decide) ?_
  walk_at "m"
  refine al_L w1 (Nat.le_of_ble_eq_true rfl) fun l1 G1 H1 e1 _ hl1 w2 => ?_
  walk_at "m"
  unfold t_law_classes_1
  walk_at "m"
  refine isi_k T w2 (hx.mono e1) ("Answers", "answers") (by decide) ?_
  walk_at "m"
  refine isi_k T w2 (hx.mono e1) ("Archive", "archive") (by decide) ?_
  walk_at "m"
  refine isi_k T w2 (hx.mono e1) ("Rolling", "rolling") (by decide) ?_
  walk_at "m"
  refine al_L w2 (Nat.le_of_ble_eq_true rfl) fun l2 G2 H2 e2 _ hl2 w3 => ?_
  refine g_addLw w3 (e2 _ _ hl1) hl2 (Nat.le_of_ble_eq_true rfl) fun p G3 H3 e3 _ hp w4 => ?_
  exact k p G3 H3 ((e1.trans e2).trans e3) hp w4
theorem p_law_due_classes' (vs : List V) (H : Hp) (Q : VK) (E : XK) (h : spDueC K vs H Q E) : t_law_due_classes P w K { nx := fun _ H' => Q .non H', rt := Q } (L2.start N_law_due_classes vs) H := by
  obtain ⟨wd, l, M, G, rfl, w1, hl, k⟩ := h
  change t_law_due_classes P w K _ [some (.str wd), some (.ref l), none, none] H
  have at_ : ∀ {i : Nat} {y : V}, (kinds.map fun k => V.str k.2)[i]? = some y → ∃ q, kinds[i]? = some q ∧ y = V.str q.2 := by
    intro i y hy
    rw [List.getElem?_map] at hy
    cases e : kinds[i]? with
    | none => rw [e] at hy; cases hy
    | some q => rw [e] at hy; exact ⟨q, rfl, (Option.some.inj hy).symm⟩
  have all : ∀ (ys : List V) (f : Str → Bool), ys.length = (kinds.map fun k => V.str k.2).length → (∀ (i : Nat) v, ys[i]? = some v → ∃ q, kinds[i]? = some q ∧ v = V.bl (f q.2)) → ys = kinds.map fun k => V.bl (f k.2) := by
    intro ys f hlen hy
    refine List.ext_getElem? fun i => ?_
    rw [List.getElem?_map]
    rw [List.length_map] at hlen
    by_cases hi : i < ys.length
    · obtain ⟨q, hq, e⟩ := hy i _ (List.getElem?_eq_getElem hi)
      rw [List.getElem?_eq_getElem hi, e, hq]
      rfl
    · rw [List.getElem?_eq_none (by omega), List.getElem?_eq_none (by omega)]
      rfl
  unfold t_law_due_classes
  walk_at "m"
  refine ⟨l, rfl, ⟨_, ex_l w1.ex hl⟩, ?_⟩
  refine lc_lst w1 hl (by decide) (fun i _ v => ∃ q, kinds[i]? = some q ∧ v = V.bl (decide (q.2 = wd) || decide (q.2 = "store"))) (fun _ _ _ _ _ h => h) (by intro _; rfl) ?_ ?_
  · intro i y G1 H1 D acc R hi e1 hacc w2 k1
    obtain ⟨q, hq, rfl⟩ := at_ hi
    walk_at "m"
    refine g_eqS rfl ?_
    walk_at "m"
    refine b_d (fun h => ?_) (fun h => ?_)
    · refine k1 _ G1 H1 (Ex.refl _) ⟨q, hq, ?_⟩ w2
      rw [decide_eq_true (V.str.inj h)]
      rfl
    · walk_at "m"
      refine g_eqS rfl ?_
      refine k1 _ G1 H1 (Ex.refl _) ⟨q, hq, ?_⟩ w2
      rw [decide_eq_false (fun z => h (by rw [z]) : ¬ q.2 = wd), Bool.false_or]
      exact congrArg V.bl (decide_eq_decide.mpr ⟨fun z => V.str.inj z, fun z => by rw [z]⟩)
  · intro D ys G1 H1 hly hy e1 _ hD w2
    have ey := all ys (fun v => decide (v = wd) || decide (v = "store")) hly hy
    walk_at "m"
    unfold t_law_due_classes_1
    walk_at "m"
    refine g_eqS rfl ?_
    walk_at "m"
    refine b_d (fun h => ?_) (fun h => ?_)
    · have hr : wd = "rolling" := V.str.inj h
      subst hr
      walk_at "m"
      refine ⟨l, rfl, ⟨_, ex_l (e1.trans w2.ex) hl⟩, ?_⟩
      refine lc_lst w2 (ex_l e1 hl) (by decide) (fun i _ v => ∃ q, kinds[i]? = some q ∧ v = V.bl (decide (q.2 ∈ (["store", "answers", "archive", "rolling"] : List Str)))) (fun _ _ _ _ _ h => h) (by intro _; rfl) ?_ ?_
      · intro i y G2 H2 D2 acc R hi e2 hacc w3 k1
        obtain ⟨q, hq, rfl⟩ := at_ hi
        walk_at "m"
        refine al_L w3 (Nat.le_of_ble_eq_true rfl) fun l2 G3 H3 e3 _ hl2 w4 => ?_
        refine g_in (ys := ["store", "answers", "archive", "rolling"]) (SqL.of (w4.ex _ _ hl2)) ?_
        exact k1 _ G3 H3 e3 ⟨q, hq, rfl⟩ w4
      · intro D2 zs G2 H2 hlz hz e2 _ hD2 w3
        have ez := all zs (fun v => decide (v ∈ (["store", "answers", "archive", "rolling"] : List Str))) hlz hz
        walk_at "m"
        unfold t_law_due_classes_2
        walk_at "m"
        refine k D2 G2 H2 (e1.trans e2) ?_ w3
        rw [hD2, ez]
        congr 2
    · walk_at "m"
      unfold t_law_due_classes_2
      walk_at "m"
      refine k D G1 H1 e1 ?_ w2
      rw [hD, ey]
      have hne : ¬ wd = "rolling" := fun z => h (by rw [z])
      congr 2
      refine List.map_congr_left fun q _ => ?_
      unfold below
      rw [decide_eq_false hne, Bool.false_and, Bool.or_false]
      exact congrArg V.bl (by rw [decide_eq_decide.mpr ⟨fun z : q.2 = wd => z.symm, fun z => z.symm⟩])
end
end E

namespace E
open PySem L2 Evl SX StX
open PySem.Spec PyProof.Rows He
local macro_rules | `(tactic| walk_at "g1") => `(tactic| first
  | with_reducible refine g_seq ?_
  | with_reducible refine g_asg ?_
  | with_reducible refine g_name ?_
  | with_reducible refine g_c ?_
  | with_reducible refine g_op ?_
  | with_reducible refine g_cons ?_
  | with_reducible refine g_nil ?_
  | with_reducible refine g_cb ?_
  | with_reducible refine g_ret ?_
  | with_reducible refine g_ifS ?_
  | with_reducible refine g_test ?_
  | with_reducible refine g_isB ?_
  | with_reducible refine g_I0 ?_
  | with_reducible refine g_subI ?_
  | with_reducible refine g_ltI ?_
  | with_reducible refine g_leI ?_
  | with_reducible refine g_gtI ?_
  | with_reducible refine g_geI ?_
  | with_reducible refine g_negI ?_
  | with_reducible refine g_isN ?_
  | with_reducible refine g_notN ?_
  | with_reducible refine g_call ?_
  | with_reducible refine g_tup ?_
  | with_reducible refine g_lst ?_
  | with_reducible refine g_sub ?_
  | with_reducible refine g_par ?_
  | with_reducible refine g_m1 ?_
  | with_reducible refine g_yes ?_
  | with_reducible refine g_lc ?_
  | with_reducible refine g_iRng1 ?_
  | with_reducible refine g_iList ?_
  | with_reducible refine g_iTup ?_
  | with_reducible refine g_iStr ?_
  | with_reducible refine g_part ?_
  | with_reducible refine g_gTup ?_
  | with_reducible refine g_gCons ?_
  | with_reducible refine g_gNil ?_
  | with_reducible refine g_tru ?_
  | with_reducible refine g_sl ?_
  | with_reducible refine g_noPart ?_
  | with_reducible refine g_int ?_
  | with_reducible refine g_addI ?_
  | with_reducible refine g_next ?_
  | with_reducible refine g_drop ?_
  | with_reducible refine g_and ?_
  | with_reducible refine g_or ?_
  | with_reducible refine g_not ?_
  | with_reducible refine g_tB ?_
  | with_reducible refine g_andV ?_
  | with_reducible refine g_orV ?_
  | with_reducible refine g_notV ?_
  | with_reducible refine g_if ?_
  | with_reducible refine g_un ?_
  | with_reducible refine g_U ?_
  | with_reducible refine g_chain ?_
  | with_reducible refine g_retN ?_
  | with_reducible refine g_abs ?_
  | with_reducible refine g_min ?_
  | with_reducible refine g_max ?_
  | with_reducible refine iteT ?_
  | with_reducible refine iteF ?_
  | ((with_reducible show tVar _ _ _ _); refine g_var rfl ?_))
local macro_rules | `(tactic| walk_at "g") => `(tactic| repeat (walk_at "g1"))
local macro_rules | `(tactic| walk_at "hp") => `(tactic| repeat (first
  | assumption
  | refine SqL.of ?_
  | refine SqT.of ?_
  | refine Vw.ex (by assumption) _ _ ?_
  | refine (by assumption : Evl.Ex _ _) _ _ ?_))
local macro_rules | `(tactic| walk_at "b") => `(tactic| first
  | with_reducible refine iteT ?_
  | with_reducible refine iteF ?_
  | with_reducible refine b_d (fun h => ?_) (fun h => ?_)
  | with_reducible refine b_n (fun h => ?_) (fun h => ?_)
  | with_reducible refine b_nb (fun h => ?_) (fun h => ?_)
  | with_reducible refine b_b (fun h => ?_) (fun h => ?_))
local macro_rules | `(tactic| walk_at "al") => `(tactic| first
  | with_reducible refine al_T (by assumption) (Nat.le_of_ble_eq_true (by with_unfolding_all rfl)) (fun p G' H' e gp hp w' => ?_)
  | with_reducible refine al_L (by assumption) (Nat.le_of_ble_eq_true (by with_unfolding_all rfl)) (fun p G' H' e gp hp w' => ?_))
local macro_rules | `(tactic| walk_at "ga") => `(tactic| repeat (first | walk_at "g1" | walk_at "al"))
local macro_rules | `(tactic| walk_at "k1") => `(tactic| first
  | walk_at "g1"
  | with_reducible refine g_sF ?_
  | with_reducible refine g_fF ?_
  | with_reducible refine g_cF ?_
  | with_reducible refine g_mA ?_
  | with_reducible refine g_st ?_
  | with_reducible refine g_star ?_
  | with_reducible refine g_rT ?_)
local macro_rules | `(tactic| walk_at "k") => `(tactic| repeat (walk_at "k1"))
local macro_rules | `(tactic| walk_at "f1") => `(tactic| first
  | walk_at "k1"
  | with_reducible refine g_for ?_)
local macro_rules | `(tactic| walk_at "f") => `(tactic| repeat (walk_at "f1"))
local macro_rules | `(tactic| walk_at "m1") => `(tactic| first
  | walk_at "f1"
  | with_reducible refine g_mD ?_
  | with_reducible refine g_cV ?_
  | with_reducible refine g_pc ?_
  | with_reducible refine g_pn ?_
  | with_reducible refine g_dg ?_
  | with_reducible refine g_bm ?_)
local macro_rules | `(tactic| walk_at "m") => `(tactic| repeat (walk_at "m1"))
section
variable {P : Program} {w : World} {K : PySem.W.Frag} {G G' H : Hp} {M : MM} {mg : Str → Option Value}
theorem words_parts {ws : List Str} {n : Nat} (h : WordsOk n ws) : PartsOk ws := ⟨fun x hx => ⟨h.nm x hx, h.up x hx⟩, h.nd⟩
theorem parts_sub {xs ys : List Str} (s : xs.Sublist ys) (h : PartsOk ys) : PartsOk xs := ⟨fun x hx => h.1 x (s.subset hx), h.2.sublist s⟩
theorem drawn_sub2 {ws : List Str} {i j : Nat} (hi : i ≤ 3) : (ws.take i ++ (ws.drop 3).take j).Sublist ws := by
  have e : ws.take i = (ws.take 3).take i := by rw [List.take_take, Nat.min_eq_left hi]
  have : (ws.take i ++ (ws.drop 3).take j).Sublist (ws.take 3 ++ ws.drop 3) := List.Sublist.append (by rw [e]; exact List.take_sublist _ _) (List.take_sublist _ _)
  rwa [List.take_append_drop] at this
theorem strAt {ws : List Str} {i : Nat} {x : Str} (h : ws[i]? = some x) : (ws.map V.str)[i]? = some (V.str x) := by rw [List.getElem?_map, h]; rfl
theorem wordAt {ws : List Str} {n i : Nat} (h : WordsOk n ws) (hi : i < n) : ∃ x, ws[i]? = some x ∧ nmS x = true := by
  have l : i < ws.length := by rw [h.len]; exact hi
  exact ⟨_, List.getElem?_eq_getElem l, h.nm _ (List.getElem_mem l)⟩
def dL (ws : List Str) : PyData := .list (ws.map PyData.str)
def dLb (bs : List Bool) : PyData := .list (bs.map PyData.bool)
theorem dp_all {ws : List Str} : DpAll K H (ws.map V.str) (ws.map PyData.str) := by
  induction ws with
  | nil => exact .nil
  | cons x ws ih => exact .cons (.str x) ih
theorem dp_allb {bs : List Bool} : DpAll K H (bs.map V.bl) (bs.map PyData.bool) := by
  induction bs with
  | nil => exact .nil
  | cons x ws ih => exact .cons (.bl x) ih
theorem lay_all {ws : List Str} (h : ∀ x ∈ ws, PyData.strOk x = true) : PyData.canLayAll0 (ws.map PyData.str) = true := by
  induction ws with
  | nil => rfl
  | cons x ws ih =>
    show (PyData.strOk x && PyData.canLayAll0 (ws.map PyData.str)) = true
    rw [h x List.mem_cons_self, ih fun y hy => h y (List.mem_cons_of_mem _ hy)]
    rfl
theorem dep_all {ws : List Str} : PyData.depthAll (ws.map PyData.str) = 0 := by
  induction ws with
  | nil => rfl
  | cons x ws ih =>
    show max 0 (PyData.depthAll (ws.map PyData.str)) = 0
    rw [ih]
    rfl
theorem sh_L {ws : List Str} (h : ∀ x ∈ ws, PyData.strOk x = true) : SeqAt.shaped (dL ws) = true := by
  unfold SeqAt.shaped
  rw [Bool.and_eq_true]
  refine ⟨lay_all h, ?_⟩
  rw [decide_eq_true_eq]
  show PyData.depthAll (ws.map PyData.str) + 1 ≤ 64
  rw [dep_all]
  decide
theorem sh_Lb {bs : List Bool} : SeqAt.shaped (dLb bs) = true := by
  unfold SeqAt.shaped
  rw [Bool.and_eq_true]
  constructor
  · show PyData.canLayAll0 (bs.map PyData.bool) = true
    induction bs with
    | nil => rfl
    | cons x ws ih =>
      show (true && PyData.canLayAll0 (ws.map PyData.bool)) = true
      rw [ih]
      rfl
  · rw [decide_eq_true_eq]
    have : PyData.depthAll (bs.map PyData.bool) = 0 := by
      induction bs with
      | nil => rfl
      | cons x ws ih =>
        show max 0 (PyData.depthAll (ws.map PyData.bool)) = 0
        rw [ih]
        rfl
    show PyData.depthAll (bs.map PyData.bool) + 1 ≤ 64
    rw [this]
    decide
theorem acts_ok (wd : Str) : ∀ x ∈ acts wd, PyData.strOk x = true := by
  unfold acts
  split
  · decide +kernel
  · split
    · decide +kernel
    · split <;> decide +kernel
theorem eqv_self {ws : List Str} (h : ∀ x ∈ ws, PyData.strOk x = true) : PyData.eqv (dL ws) (dL ws) = true := PySem.SeqAt.eqv_refl _ (lay_all h)
theorem van_in (wd : Str) : decide (wd ∈ (["answers", "rolling"] : List Str)) = van wd := by
  unfold van
  exact decide_eq_decide.mpr (by simp)
theorem cnt_in (wd : Str) : (!decide (wd ∈ (["archive", "rolling"] : List Str))) = cnt wd := by
  unfold cnt
  rw [decide_eq_decide.mpr (by simp : wd ∈ (["archive", "rolling"] : List Str) ↔ (wd = "archive" ∨ wd = "rolling"))]
theorem p_law_right' (T : Tx K mg) (vs : List V) (H : Hp) (Q : VK) (E : XK) (h : spRight K vs H Q E) : t_law_right P w K { nx := fun _ H' => Q .non H', rt := Q } (L2.start N_law_right vs) H := by
  obtain ⟨b, l0, wd, n, M, G, rfl, w1, hwd, hl0, k⟩ := h
  change t_law_right P w K _ [some (.ref b), some (.str wd), some (.ref l0), none, none, none, none, none, none, none, none, none] H
  unfold t_law_right
  walk_at "m"
  refine ⟨b, n + 5, 8, M, G, rfl, by decide, w1, fun l ws G1 H1 hw e1 _ hl w2 => ?_⟩
  obtain ⟨x6, h6, n6⟩ := wordAt hw (i := 6) (by decide)
  obtain ⟨x7, h7, n7⟩ := wordAt hw (i := 7) (by decide)
  obtain ⟨x0, h0, n0⟩ := wordAt hw (i := 0) (by decide)
  walk_at "m"
  unfold t_law_right_1
  walk_at "m"
  refine ⟨b, n + 4, 4, M, G1, rfl, w2, by decide, by decide, fun i H2 i0 i4 w3 => ?_⟩
  walk_at "m"
  refine ⟨b, n + 3, 4, M, G1, rfl, w3, by decide, by decide, fun j H3 j0 j4 w4 => ?_⟩
  walk_at "m"
  obtain ⟨i, rfl⟩ : ∃ t : Nat, i = (t : Int) := ⟨i.toNat, by omega⟩
  obtain ⟨j, rfl⟩ : ∃ t : Nat, j = (t : Int) := ⟨j.toNat, by omega⟩
  refine ⟨_, _, rfl, ?_⟩
  unfold t_law_right_2
  walk_at "m"
  refine g_ixL (SqL.of (w4.ex _ _ hl)) (atI_of (by decide) (strAt h7)) ?_
  walk_at "m"
  refine al_L w4 (Nat.le_of_ble_eq_true rfl) fun l2 G2 H4 e2 _ hl2 w5 => ?_
  walk_at "m"
  refine ⟨b, l2, n + 2, _, M, G2, rfl, w5, SqL.of hl2, by simp, Nat.le_of_ble_eq_true rfl, fun i2 v H5 hv2 w6 => ?_⟩
  obtain ⟨bb, rfl, hb⟩ : ∃ bb : Option Str, v = bV bb ∧ ∀ x, bb = some x → nmS x = true := by
    have hm := List.mem_of_getElem? hv2
    simp only [List.mem_cons, List.not_mem_nil, or_false] at hm
    rcases hm with rfl | rfl
    · exact ⟨none, rfl, fun x hx => by cases hx⟩
    · exact ⟨some x7, rfl, fun x hx => by cases hx; exact n7⟩
  walk_at "m"
  unfold t_law_right_3
  walk_at "m"
  have hl3 : G2 l = some (.lst (ws.map V.str)) := e2 _ _ hl
  refine g_ixL (SqL.of (w6.ex _ _ hl3)) (atI_of (by decide) (strAt h6)) ?_
  walk_at "m"
  refine ⟨_, rfl, ?_⟩
  refine g_slL w6 (SqL.of hl3) fun p1 G3 H6 e3 _ hp1 w7 => ?_
  rw [cut_to] at hp1
  walk_at "m"
  refine g_tupOfL w7 (SqL.of hp1) fun p G4 H7 e4 _ hp w8 => ?_
  walk_at "m"
  refine ⟨_, rfl, ?_⟩
  walk_at "m"
  refine ⟨_, rfl, ?_⟩
  refine g_slL w8 (SqL.of (e4 _ _ (e3 _ _ hl3))) fun q1 G5 H8 e5 _ hq1 w9 => ?_
  have cm := cut_mid (ws.map V.str) 3 j (by rw [List.length_map, hw.len]; decide)
  rw [show (((3 : Nat) : Int)) = 3 from rfl] at cm
  rw [cm] at hq1
  walk_at "m"
  refine g_tupOfL w9 (SqL.of hq1) fun q G6 H9 e6 _ hq w10 => ?_
  walk_at "m"
  refine al_T w10 (Nat.le_of_ble_eq_true rfl) fun a G7 H10 e7 _ ha w11 => ?_
  walk_at "m"
  have ok : SOk ⟨wd, x6, bb, ws.take i, (ws.drop 3).take j⟩ := ⟨hwd, n6, hb, parts_sub (drawn_sub2 (by omega)) (words_parts hw), by show (ws.take i).length ≤ 3; rw [List.length_take]; omega, by show ((ws.drop 3).take j).length ≤ 3; rw [List.length_take]; omega⟩
  have st : StT K G7 a ⟨wd, x6, bb, ws.take i, (ws.drop 3).take j⟩ := ⟨p, q, SqT.of ha, SqT.of (by rw [List.map_take]; exact (e5.trans (e6.trans e7)) _ _ hp), SqT.of (by rw [List.map_take, List.map_drop]; exact e7 _ _ hq)⟩
  obtain ⟨s, es, ew⟩ : ∃ s : SD, s = ⟨wd, x6, bb, ws.take i, (ws.drop 3).take j⟩ ∧ s.w = wd := ⟨_, rfl, rfl⟩
  rw [← es] at ok st
  have e17 : Ex G1 G7 := e2.trans ((e3.trans e4).trans (e5.trans (e6.trans e7)))
  refine ⟨a, _, G7, s, rfl, w11, st, ok, fun o1 G8 H11 e8 so w12 => ?_⟩
  walk_at "m"
  unfold t_law_right_4
  walk_at "m"
  refine ⟨wd, _, G8, rfl, w12, hwd, fun du G9 H12 e9 hdu w13 => ?_⟩
  have so' := so.mono e9
  have so'' := so'
  obtain ⟨k1, dx, p', q', ok1, hk1, ew1, g1, g2, g3⟩ := so''
  have ew1' : k1.2 = wd := ew1.trans ew
  walk_at "m"
  refine ⟨o1, _, dx, _, rfl, List.mem_map.mpr ⟨k1, hk1, rfl⟩, w13.ex _ _ g1, rfl, ?_⟩
  walk_at "m"
  refine ⟨⟨dx, _, w13.ex _ _ g1⟩, o1, k1, dx, _, rfl, hk1, w13.ex _ _ g1, ?_⟩
  refine al_Lm w13 (by rw [List.length_map]; have := acts_len k1.2; omega) fun got H13 _ w14 => ?_
  walk_at "m"
  refine ⟨_, _, rfl, ?_⟩
  rw [ew1'] at w14
  unfold t_law_right_5
  walk_at "m"
  obtain ⟨u1, c1⟩ := (T.kd k1 hk1).wd
  refine ⟨o1, _, _, _, _, u1, rfl, w14.ex _ _ g1, (T.kd k1 hk1).cf.cls, c1, rfl, ?_⟩
  walk_at "m"
  refine g_neS rfl ?_
  walk_at "m"
  refine b_f (by rw [ew1']; simp) ?_
  walk_at "m"
  refine g_isi (n := "list") (b := true) (.base (.lst w14.at)) (by decide +kernel) ?_
  walk_at "m"
  refine b_f rfl ?_
  walk_at "m"
  refine g_neD (d := dL (acts wd)) (e := dL (acts wd)) (.lst (SqL.of w14.at) dp_all) (.lst (SqL.of (w14.ex _ _ hdu)) dp_all) (sh_L (acts_ok wd)) (sh_L (acts_ok wd)) ?_
  rw [eqv_self (acts_ok wd)]
  walk_at "m"
  refine b_f rfl ?_
  walk_at "m"
  unfold t_law_right_6
  walk_at "m"
  refine ⟨Or.inl ⟨rfl, _, SqL.of w14.at⟩, ?_⟩
  walk_at "m"
  refine ⟨got, _, _, rfl, rfl, w14.at, sz_lt (by rw [List.length_map]; have := acts_len wd; omega), ?_⟩
  have w15 := (w14.put (ψ := fun _ => True) (o := .lst ((acts wd).map V.str ++ [V.str "vanish"])) trivial).tail
  generalize upd H13 got (.lst ((acts wd).map V.str ++ [V.str "vanish"])) = H14 at w15 ⊢
  walk_at "m"
  unfold t_law_right_7
  walk_at "m"
  refine ⟨o1, _, dx, _, rfl, List.mem_map.mpr ⟨k1, hk1, rfl⟩, w15.ex _ _ g1, rfl, ?_⟩
  walk_at "m"
  refine ⟨⟨dx, _, w15.ex _ _ g1⟩, o1, k1, dx, _, rfl, hk1, w15.ex _ _ g1, ?_⟩
  walk_at "m"
  refine al_L w15 (Nat.le_of_ble_eq_true rfl) fun la G10 H15 e10 _ hla w16 => ?_
  refine g_in (ys := ["answers", "rolling"]) (SqL.of (w16.ex _ _ hla)) ?_
  walk_at "m"
  refine ⟨_, _, rfl, ?_⟩
  walk_at "m"
  refine b_f (by rw [van_in, ew1']; simp) ?_
  walk_at "m"
  unfold t_law_right_8
  walk_at "m"
  have g10 := e10 _ _ g1
  refine ⟨o1, _, dx, _, rfl, List.mem_map.mpr ⟨k1, hk1, rfl⟩, w16.ex _ _ g10, rfl, ?_⟩
  walk_at "m"
  refine ⟨⟨dx, _, w16.ex _ _ g10⟩, o1, k1, dx, _, rfl, hk1, w16.ex _ _ g10, ?_⟩
  walk_at "m"
  refine al_L w16 (Nat.le_of_ble_eq_true rfl) fun lb G11 H16 e11 _ hlb w17 => ?_
  refine g_nin (ys := ["archive", "rolling"]) (SqL.of (w17.ex _ _ hlb)) ?_
  walk_at "m"
  refine ⟨_, _, rfl, ?_⟩
  walk_at "m"
  refine b_f (by rw [cnt_in, ew1']; simp) ?_
  walk_at "m"
  unfold t_law_right_9
  walk_at "m"
  have e211 : Ex G2 G11 := ((e3.trans e4).trans (e5.trans (e6.trans e7))).trans ((e8.trans e9).trans (e10.trans e11))
  refine g_ixL (SqL.of (w17.ex _ _ (e211 _ _ hl3))) (atI_of (by decide) (strAt h0)) ?_
  walk_at "m"
  refine al_L w17 (Nat.le_of_ble_eq_true rfl) fun lc G12 H17 e12 _ hlc w18 => ?_
  walk_at "m"
  unfold t_law_right_10
  walk_at "m"
  refine ⟨b, n + 1, 0, M, G12, rfl, by decide, by decide, w18, fun od G13 H18 e13 dod _ w19 => ?_⟩
  walk_at "m"
  refine ⟨b, n, 9, M, G13, rfl, by decide, by decide, w19, fun oe G14 H19 e14 doe _ w20 => ?_⟩
  walk_at "m"
  refine al_L w20 (Nat.le_of_ble_eq_true rfl) fun ld G15 H20 e15 _ hld w21 => ?_
  refine g_addLw w21 ((e13.trans (e14.trans e15)) _ _ hlc) hld (Nat.le_of_ble_eq_true rfl) fun lt G16 H21 e16 _ hlt w22 => ?_
  refine ⟨lt, rfl, ⟨_, SqL.of (w22.ex _ _ hlt)⟩, ?_⟩
  have e916 : Ex G9 G16 := (e10.trans e11).trans (e12.trans (e13.trans (e14.trans (e15.trans e16))))
  have so3 := so'.mono e916
  have hdu3 := e916 _ _ hdu
  have sl : ∀ x : Str, PyData.strOk x = true → x.length ≤ 100000 → DatV K G16 (.str x) := fun x _ h => DatV.str h
  have dat : ∀ v ∈ ([V.str "blank", V.str "change", V.str "cut", V.str "delete", V.str "drop", V.str "vanish", V.str wd, V.str x0] ++ [od, oe]), DatV K G16 v := by
    intro v hv
    simp only [List.mem_append, List.mem_cons, List.not_mem_nil, or_false] at hv
    rcases hv with (rfl | rfl | rfl | rfl | rfl | rfl | rfl | rfl) | (rfl | rfl)
    · exact DatV.str (by decide)
    · exact DatV.str (by decide)
    · exact DatV.str (by decide)
    · exact DatV.str (by decide)
    · exact DatV.str (by decide)
    · exact DatV.str (by decide)
    · refine DatV.str ?_
      obtain ⟨q0, hq0, eq0⟩ := hwd
      rw [← eq0]
      exact (by decide : ∀ q ∈ kinds, q.2.length ≤ 100000) q0 hq0
    · exact DatV.str (by have := (nmS_len n0).2; omega)
    · exact dod.mono (e14.trans (e15.trans e16))
    · exact doe.mono (e15.trans e16)
  have eG : Ex G G16 := e1.trans ((e2.trans e211).trans (e12.trans (e13.trans (e14.trans (e15.trans e16)))))
  refine for_list (K := K) (a := lt) (xs := [V.str "blank", V.str "change", V.str "cut", V.str "delete", V.str "drop", V.str "vanish", V.str wd, V.str x0] ++ [od, oe]) (fun _ σ H' => (∃ z, σ = [some (.ref b), some (.str wd), some (.ref l0), some (.ref l), some (.int i), some (.int j), some (bV bb), some (.ref o1), some (.ref du), some (.ref got), some (.ref lc), z]) ∧ Vw ((b, BagO n) :: M) G16 H')
    ⟨⟨none, rfl⟩, w22⟩ (fun i σ H' _ ⟨_, w23⟩ => SqL.of (w23.ex _ _ hlt)) ?_ ?_
  · rintro i v σ H' hi ⟨⟨z, rfl⟩, w23⟩
    have dv := dat v (List.mem_of_getElem? hi)
    have so4 := so3
    obtain ⟨k2, dx2, p2, q2, ok2, hk2, ew2, gg1, gg2, gg3⟩ := so4
    walk_at "m"
    refine ⟨o1, _, _, _, rfl, w23.ex _ _ gg1, (T.kd k2 hk2).oi, o1, v, _, G16, s, rfl, w23, so3, dv, fun H'' w24 => ⟨_, rfl, ?_⟩⟩
    walk_at "m"
    refine g_isiStr (dv.mono w24.ex) ?_
    walk_at "m"
    refine b_b (fun hs => ?_) (fun hs => ?_)
    · obtain ⟨y, rfl⟩ : ∃ y, v = .str y := by cases v <;> first | exact ⟨_, rfl⟩ | cases hs
      walk_at "m"
      refine g_in (ys := acts wd) (SqL.of (w24.ex _ _ hdu3)) ?_
      refine g_neS rfl ?_
      walk_at "m"
      refine b_f (by
        show (!decide (V.bl (decide (y ∈ acts s.w) != false) = V.bl (decide (y ∈ acts wd)))) = false
        rw [ew]
        cases decide (y ∈ acts wd) <;> rfl) ?_
      walk_at "m"
      exact ⟨⟨_, rfl⟩, w24⟩
    · have e : inA s.w v = false := by cases v <;> first | rfl | cases hs
      rw [e]
      refine g_neS rfl ?_
      walk_at "m"
      refine b_f rfl ?_
      walk_at "m"
      exact ⟨⟨_, rfl⟩, w24⟩
  · rintro σ H' ⟨⟨z, rfl⟩, w23⟩
    have so4 := so3
    obtain ⟨k2, dx2, p2, q2, ok2, hk2, ew2, gg1, gg2, gg3⟩ := so4
    have ew2' : k2.2 = wd := ew2.trans ew
    change t_law_right_11 P w K { nx := fun _ H' => Q .non H', rt := Q } _ H'
    unfold t_law_right_11
    walk_at "m"
    refine ⟨o1, _, dx2, _, rfl, List.mem_map.mpr ⟨k2, hk2, rfl⟩, w23.ex _ _ gg1, rfl, ?_⟩
    walk_at "m"
    refine ⟨⟨dx2, _, w23.ex _ _ gg1⟩, o1, k2, dx2, _, rfl, hk2, w23.ex _ _ gg1, ?_⟩
    rw [ew2']
    refine al_L w23 (by rw [List.length_map]; have := acts_len wd; omega) fun le G17 H22 e17' _ hle w24 => ?_
    walk_at "m"
    refine g_eqD (d := dL (acts wd)) (e := dL (acts wd)) (.lst (SqL.of (w24.ex _ _ hle)) dp_all) (.lst (SqL.of (w24.ex _ _ (e17' _ _ hdu3))) dp_all) (sh_L (acts_ok wd)) (sh_L (acts_ok wd)) ?_
    rw [eqv_self (acts_ok wd)]
    walk_at "m"
    refine ⟨o1, _, G17, s, rfl, w24, so3.mono e17', fun c1' G18 H23 e18 hc1 w25 => ?_⟩
    walk_at "m"
    refine ⟨wd, l0, _, G18, rfl, w25, ex_l (eG.trans (e17'.trans e18)) hl0, fun c2' G19 H24 e19 hc2 w26 => ?_⟩
    have ebl : ∀ f : Str → Bool, (kinds.map fun k => V.bl (f k.2)) = (kinds.map fun k => f k.2).map V.bl := fun f => by rw [List.map_map]; rfl
    refine g_eqD (d := dLb (kinds.map fun k => below wd k.2)) (e := dLb (kinds.map fun k => below wd k.2)) (.lst (SqL.of (w26.ex _ _ (e19 _ _ hc1))) ?_) (.lst (SqL.of (w26.ex _ _ hc2)) ?_) sh_Lb sh_Lb ?_
    · rw [ew, ebl]
      exact dp_allb
    · rw [ebl]
      exact dp_allb
    rw [PySem.SeqAt.eqv_refl _ (PySem.SeqAt.canLay_of_shaped sh_Lb)]
    exact k H24 (w26.weak (eG.trans (e17'.trans (e18.trans e19))))
theorem p_law' (vs : List V) (H : Hp) (Q : VK) (E : XK) (h : spLaw K vs H Q E) : t_law P w K { nx := fun _ H' => Q .non H', rt := Q } (L2.start N_law vs) H := by
  obtain ⟨a, ns, rfl, hs, k⟩ := h
  change t_law P w K _ [some (.ref a), none, none, none, none] H
  have w0 : Vw [] H H := Vw.plain (Ex.refl H)
  unfold t_law
  walk_at "m"
  refine al_L w0 (Nat.le_of_ble_eq_true rfl) fun l G1 H1 e1 _ hl w1 => ?_
  have hl' : G1 l = some (.lst (kinds.map fun k => V.str k.2)) := hl
  walk_at "m"
  unfold t_law_1
  walk_at "m"
  refine ⟨_, G1, rfl, w1, fun p G2 H2 e2 hp w2 => ?_⟩
  walk_at "m"
  have ek : (kinds.map fun k => V.str k.2) = (kinds.map fun k => k.2).map V.str := by rw [List.map_map]; rfl
  have okk : ∀ x ∈ kinds.map (fun k => k.2), PyData.strOk x = true := by decide +kernel
  refine g_neD (d := dL (kinds.map fun k => k.2)) (e := dL (kinds.map fun k => k.2)) (.lst (SqL.of (w2.ex _ _ hp)) (by rw [ek]; exact dp_all)) (.lst (SqL.of (w2.ex _ _ (e2 _ _ hl'))) (by rw [ek]; exact dp_all)) (sh_L okk) (sh_L okk) ?_
  rw [eqv_self okk]
  walk_at "m"
  refine b_f rfl ?_
  walk_at "m"
  unfold t_law_2
  walk_at "m"
  have hsG : SqL K G2 a (ns.map V.int) := ex_l (e1.trans e2) hs
  have hlG : SqL K G2 l (kinds.map fun k => V.str k.2) := SqL.of (e2 _ _ hl')
  refine g_lenL (ex_l w2.ex hsG) ?_
  walk_at "m"
  generalize hm : (if (if ((ns.map V.int).length : Int) < 3 then ((ns.map V.int).length : Int) else 3) > 1 then (if ((ns.map V.int).length : Int) < 3 then ((ns.map V.int).length : Int) else 3) else 1) = m
  have m8 : m ≤ 3 := by rw [← hm]; split <;> (try split) <;> omega
  have m0 : 0 ≤ m := by rw [← hm]; split <;> (try split) <;> omega
  refine ⟨m, rfl, by omega, by omega, ?_⟩
  refine for_range (lo := 0) (n := m.toNat) (fun _ σ H' => (∃ z1 z2 z3, σ = [some (.ref a), some (.ref l), z1, z2, z3]) ∧ Ex G2 H') ⟨⟨none, none, none, rfl⟩, w2.ex⟩ ?_ ?_
  · rintro i σ H' hi ⟨⟨z1, z2, z3, rfl⟩, e⟩
    walk_at "m"
    refine ⟨a, _, ns, [], G2, rfl, Vw.plain e, hsG, by omega, by omega, fun b H3 gb w3 => ?_⟩
    walk_at "m"
    refine ⟨l, rfl, ⟨_, ex_l w3.ex hlG⟩, ?_⟩
    refine for_list (K := K) (a := l) (xs := kinds.map fun k => V.str k.2) (fun j σ H' => (∃ z, σ = [some (.ref a), some (.ref l), some (.int (0 + (i : Int))), some (.ref b), z]) ∧ Vw [(b, BagO (1000000 - 17 * j))] G2 H') ⟨⟨z3, rfl⟩, w3⟩ (fun i σ H' _ ⟨_, w4⟩ => ex_l w4.ex hlG) ?_ ?_
    · rintro j y σ H' hj ⟨⟨z, rfl⟩, w4⟩
      obtain ⟨q, hq, rfl⟩ : ∃ q, kinds[j]? = some q ∧ y = V.str q.2 := by
        rw [List.getElem?_map] at hj
        cases e : kinds[j]? with
        | none => rw [e] at hj; cases hj
        | some q => rw [e] at hj; exact ⟨q, rfl, (Option.some.inj hj).symm⟩
      have hj7 : j < 7 := (List.getElem?_eq_some_iff.mp hq).1
      walk_at "m"
      refine ⟨b, l, q.2, 1000000 - 17 * (j + 1), [], G2, rfl, w4.imp fun o ho => ho.mono (by omega), ⟨q, List.mem_of_getElem? hq, rfl⟩, hlG, fun H5 w5 => ?_⟩
      walk_at "m"
      refine b_f rfl ?_
      walk_at "m"
      exact ⟨⟨_, rfl⟩, w5⟩
    · rintro σ H' ⟨⟨z, rfl⟩, w4⟩
      exact ⟨⟨_, _, _, rfl⟩, w4.ex⟩
  · rintro σ H' ⟨⟨z1, z2, z3, rfl⟩, e⟩
    change t_law_3 P w K { nx := fun _ H' => Q .non H', rt := Q } [some (.ref a), some (.ref l), z1, z2, z3] H'
    unfold t_law_3
    walk_at "m"
    exact k H'
end
end E

/-! the head -/
namespace E
open PySem PySem.Spec PyProof.Rows L2 He
def dG (x : Str) (i : Nat) : Df := { ad := fun K => ga K x, name := x, qual := x, st := top i }
def dM (x m q : Str) (i j : Nat) : Df := { ad := am x m, name := m, qual := q, st := inClass (top i) j }
def dV (x m q : Str) (i j : Nat) : Dw := { ad := am x m, D := fun K => ga K x, name := m, qual := q, st := inClass (top i) j }
def dfs : List Df := [dG "_law_bagged" 22,
  dG "_law_draw" 23,
  dG "_law_of" 24,
  dG "_law_some_words" 25,
  dG "_law_odd_one" 26,
  dG "_law_is_truth" 27,
  dG "_law_made_store" 28,
  dG "_law_words_told" 29,
  dG "_law_actions" 30,
  dG "_law_classes" 31,
  dG "_law_due_classes" 32,
  dG "_law_right" 33,
  dG "law" 34,
  dG "is_name" 7,
  dG "is_part" 8,
  dG "look_name" 9,
  dG "look_parts" 10,
  dG "look_once" 11,
  { ad := gI, name := "__init__", qual := "Store.__init__", st := inClass (top 14) 1, kwd := [("under", .non)] },
  { ad := gC, name := "__contains__", qual := "Store.__contains__", st := inClass (top 14) 5 },
  dM "Store" "actions" "Store.actions" 14 2,
  dM "Store" "vanishes" "Store.vanishes" 14 3,
  dM "Store" "counts" "Store.counts" 14 4,
  dM "Table" "vanishes" "Table.vanishes" 15 2,
  dM "Table" "counts" "Table.counts" 15 3,
  dM "Log" "actions" "Log.actions" 16 1,
  dM "Log" "vanishes" "Log.vanishes" 16 2,
  dM "Log" "counts" "Log.counts" 16 3,
  dM "Queue" "actions" "Queue.actions" 17 1,
  dM "Queue" "vanishes" "Queue.vanishes" 17 2,
  dM "Queue" "counts" "Queue.counts" 17 3,
  dM "Answers" "actions" "Answers.actions" 18 1,
  dM "Answers" "vanishes" "Answers.vanishes" 18 2,
  dM "Answers" "counts" "Answers.counts" 18 3,
  dM "Archive" "actions" "Archive.actions" 19 1,
  dM "Archive" "vanishes" "Archive.vanishes" 19 2,
  dM "Archive" "counts" "Archive.counts" 19 3,
  dM "Rolling" "vanishes" "Rolling.vanishes" 20 2]
def dws : List Dw := [dV "Table" "actions" "Table.actions" 15 1, dV "Rolling" "actions" "Rolling.actions" 20 1, dV "Rolling" "counts" "Rolling.counts" 20 3]
def defNames : List Str := ["_law_bagged", "_law_draw", "_law_of", "_law_some_words", "_law_odd_one", "_law_is_truth", "_law_made_store", "_law_words_told", "_law_actions", "_law_classes", "_law_due_classes", "_law_right", "law", "is_name", "is_part", "look_name", "look_parts", "look_once"]
def exH (K : PySem.W.Frag) : Bool := exB K && defNames.all fun x => (Fa.glo x).ok K
def flK : Str := PySem.Challenge.pw_erasedtrails_k06_stores_by_kind.main.file
abbrev Rw : PySem.W.OpenRow := PySem.W.OpenLaw.row PySem.Challenge.rw_erasedtrails_k06_stores_by_kind
abbrev hk : PySem.W.Hook := hookV 7 flK exH dfs dws
def ob (s : PySem.W.SharedT) : AlV := obsVG 7 flK exH dfs dws (HandSHeadRun.getT s)
theorem ob_eq (s : PySem.W.SharedT) : ob s = hk.obs s.abs := obsVG_eq (HandSHeadRun.getT_eq s)
def loose : List Str := ["BadName", "Twice", "TooMany", "LETTERS", "MOST", "is_name", "is_part", "look_name", "look_parts", "look_once", "MOST_PARTS", "Store", "Table", "Log", "Queue", "Answers", "Archive", "Rolling", "_law_bagged", "_law_draw", "_law_of", "_law_some_words", "_law_odd_one", "_law_is_truth", "_law_made_store", "_law_words_told", "_law_actions", "_law_classes", "_law_due_classes", "_law_right", "__name__"]
theorem run (w : World) : HandSHeadRun.RunEq Rw (PySem.W.view Rw.prog [34]) hk ob 20000 loose w := by
  intro os
  kernel_rfl
end E

namespace E
open PySem L2 Evl SX StX
open PySem.Spec PyProof.Rows He
local macro_rules | `(tactic| walk_at "g1") => `(tactic| first
  | with_reducible refine g_seq ?_
  | with_reducible refine g_asg ?_
  | with_reducible refine g_name ?_
  | with_reducible refine g_c ?_
  | with_reducible refine g_op ?_
  | with_reducible refine g_cons ?_
  | with_reducible refine g_nil ?_
  | with_reducible refine g_cb ?_
  | with_reducible refine g_ret ?_
  | with_reducible refine g_ifS ?_
  | with_reducible refine g_test ?_
  | with_reducible refine g_isB ?_
  | with_reducible refine g_I0 ?_
  | with_reducible refine g_subI ?_
  | with_reducible refine g_ltI ?_
  | with_reducible refine g_leI ?_
  | with_reducible refine g_gtI ?_
  | with_reducible refine g_geI ?_
  | with_reducible refine g_negI ?_
  | with_reducible refine g_isN ?_
  | with_reducible refine g_notN ?_
  | with_reducible refine g_call ?_
  | with_reducible refine g_tup ?_
  | with_reducible refine g_lst ?_
  | with_reducible refine g_sub ?_
  | with_reducible refine g_par ?_
  | with_reducible refine g_m1 ?_
  | with_reducible refine g_yes ?_
  | with_reducible refine g_lc ?_
  | with_reducible refine g_iRng1 ?_
  | with_reducible refine g_iList ?_
  | with_reducible refine g_iTup ?_
  | with_reducible refine g_iStr ?_
  | with_reducible refine g_part ?_
  | with_reducible refine g_gTup ?_
  | with_reducible refine g_gCons ?_
  | with_reducible refine g_gNil ?_
  | with_reducible refine g_tru ?_
  | with_reducible refine g_sl ?_
  | with_reducible refine g_noPart ?_
  | with_reducible refine g_int ?_
  | with_reducible refine g_addI ?_
  | with_reducible refine g_next ?_
  | with_reducible refine g_drop ?_
  | with_reducible refine g_and ?_
  | with_reducible refine g_or ?_
  | with_reducible refine g_not ?_
  | with_reducible refine g_tB ?_
  | with_reducible refine g_andV ?_
  | with_reducible refine g_orV ?_
  | with_reducible refine g_notV ?_
  | with_reducible refine g_if ?_
  | with_reducible refine g_un ?_
  | with_reducible refine g_U ?_
  | with_reducible refine g_chain ?_
  | with_reducible refine g_retN ?_
  | with_reducible refine g_abs ?_
  | with_reducible refine g_min ?_
  | with_reducible refine g_max ?_
  | with_reducible refine iteT ?_
  | with_reducible refine iteF ?_
  | ((with_reducible show tVar _ _ _ _); refine g_var rfl ?_))
local macro_rules | `(tactic| walk_at "g") => `(tactic| repeat (walk_at "g1"))
local macro_rules | `(tactic| walk_at "hp") => `(tactic| repeat (first
  | assumption
  | refine SqL.of ?_
  | refine SqT.of ?_
  | refine Vw.ex (by assumption) _ _ ?_
  | refine (by assumption : Evl.Ex _ _) _ _ ?_))
local macro_rules | `(tactic| walk_at "b") => `(tactic| first
  | with_reducible refine iteT ?_
  | with_reducible refine iteF ?_
  | with_reducible refine b_d (fun h => ?_) (fun h => ?_)
  | with_reducible refine b_n (fun h => ?_) (fun h => ?_)
  | with_reducible refine b_nb (fun h => ?_) (fun h => ?_)
  | with_reducible refine b_b (fun h => ?_) (fun h => ?_))
local macro_rules | `(tactic| walk_at "al") => `(tactic| first
  | with_reducible refine al_T (by assumption) (Nat.le_of_ble_eq_true (by with_unfolding_all rfl)) (fun p G' H' e gp hp w' => ?_)
  | with_reducible refine al_L (by assumption) (Nat.le_of_ble_eq_true (by with_unfolding_all rfl)) (fun p G' H' e gp hp w' => ?_))
local macro_rules | `(tactic| walk_at "ga") => `(tactic| repeat (first | walk_at "g1" | walk_at "al"))
local macro_rules | `(tactic| walk_at "k1") => `(tactic| first
  | walk_at "g1"
  | with_reducible refine g_sF ?_
  | with_reducible refine g_fF ?_
  | with_reducible refine g_cF ?_
  | with_reducible refine g_mA ?_
  | with_reducible refine g_st ?_
  | with_reducible refine g_star ?_
  | with_reducible refine g_rT ?_)
local macro_rules | `(tactic| walk_at "k") => `(tactic| repeat (walk_at "k1"))
local macro_rules | `(tactic| walk_at "f1") => `(tactic| first
  | walk_at "k1"
  | with_reducible refine g_for ?_)
local macro_rules | `(tactic| walk_at "f") => `(tactic| repeat (walk_at "f1"))
local macro_rules | `(tactic| walk_at "m1") => `(tactic| first
  | walk_at "f1"
  | with_reducible refine g_mD ?_
  | with_reducible refine g_cV ?_
  | with_reducible refine g_pc ?_
  | with_reducible refine g_pn ?_
  | with_reducible refine g_dg ?_
  | with_reducible refine g_bm ?_)
local macro_rules | `(tactic| walk_at "m") => `(tactic| repeat (walk_at "m1"))
section
variable {P : Program} {w : World} {K : PySem.W.Frag} {mg : Str → Option Value} {base : Heap} {H : Hp} {Q : VK} {vs : List V} {Er : XK} {k : Str × Str}
theorem supS_of {scope : Scope} {a : Str} (h1 : scope.kind = .function) (h2 : scope.names.lookup ("super" : Str) = some .globalImplicit) (h3 : scope.names.lookup ("__class__" : Str) = some .free) (h4 : scope.names.lookup a = some .local) (h5 : ∀ x ∈ scope.names, x.2 ≠ .cell) (h6 : scope.isCoroutine = false) (h7 : scope.isGenerator = false)
    (h8 : ∀ x ∈ scope.names, x.2 = .free → x.1 = "__class__") : SupS scope a := ⟨h1, h2, h3, h4, fun x hx => by
  have mem : ∀ {k : NameKind}, scope.names.lookup x = some k → (x, k) ∈ scope.names := fun h => PySem.mem_of_lookup h
  rcases hx with hx | hx
  · exact absurd rfl (h5 _ (mem hx))
  · exact h8 _ (mem hx) rfl, h5, h6, h7⟩
theorem disp_a (T : Tx K mg) (hk : k ∈ kinds) (h : ∃ x rest dx fs, vs = .ref x :: rest ∧ H x = some (.ins (ga K k.1) dx fs) ∧ spMActs K vs H Q Er) : ∃ x dx fs, vs = [.ref x] ∧ H x = some (.ins (ga K k.1) dx fs) ∧ mkL Q ((acts k.2).map V.str) H := by
  obtain ⟨x, rest, dx, fs, e1, hx, y, k', dx', fs', e2, hk', hy, q⟩ := h
  rw [e1] at e2
  injection e2 with e3 e4
  cases e3
  subst e4
  rw [hx] at hy
  injection hy with hy
  injection hy with hC _ _
  have := T.inj k hk k' hk' hC
  subst this
  exact ⟨x, dx, fs, e1, hx, q⟩
theorem disp_b {f : Str → Bool} (T : Tx K mg) (hk : k ∈ kinds) (h : ∃ x rest dx fs, vs = .ref x :: rest ∧ H x = some (.ins (ga K k.1) dx fs) ∧ spMB K f vs H Q Er) : ∃ x dx fs, vs = [.ref x] ∧ H x = some (.ins (ga K k.1) dx fs) ∧ Q (.bl (f k.2)) H := by
  obtain ⟨x, rest, dx, fs, e1, hx, y, k', dx', fs', e2, hk', hy, q⟩ := h
  rw [e1] at e2
  injection e2 with e3 e4
  cases e3
  subst e4
  rw [hx] at hy
  injection hy with hy
  injection hy with hC _ _
  have := T.inj k hk k' hk' hC
  subst this
  exact ⟨x, dx, fs, e1, hx, q⟩
theorem ss0 : SupS (defScope (inClass (top 15) 1)) "self" := supS_of rfl rfl rfl rfl (by decide +kernel) rfl rfl (by decide +kernel)
theorem ss1 : SupS (defScope (inClass (top 20) 1)) "self" := supS_of rfl rfl rfl rfl (by decide +kernel) rfl rfl (by decide +kernel)
theorem ss2 : SupS (defScope (inClass (top 20) 3)) "self" := supS_of rfl rfl rfl rfl (by decide +kernel) rfl rfl (by decide +kernel)
theorem facts {h : Heap} {f : Addr} (hP : P = PySem.Challenge.pw_erasedtrails_k06_stores_by_kind) (X : K.In h) (G : h.Ns mainGlobals mg) (hfa : mg ("law" : Str) = some (.ref f)) (c : SaysV flK exH dfs dws K) :
    ∃ fd : FuncData, (∀ (s : Shared) (v : Value), BindsTo s fd ⟨[v], []⟩ [("_law_script", v)]) ∧ ∀ base : Heap, K.In base → base.Ns mainGlobals mg → FnOk P w K mg base CX0 8 f fd ["_law_script"] (spLaw K) := by
  obtain ⟨e1, e2⟩ := ba c.fact
  have T := exB_ok X G e1
  have gl : ∀ (i : Nat) {x : Str}, defNames[i]? = some x → mg x = some (.ref (ga K x)) := fun i x hx => glo_ok X G (List.all_eq_true.mp e2 x (List.mem_of_getElem? hx))
  obtain ⟨d0, F0⟩ := c.def_ 0 (d := dG "_law_bagged" 22) rfl
  obtain ⟨d1, F1⟩ := c.def_ 1 (d := dG "_law_draw" 23) rfl
  obtain ⟨d2, F2⟩ := c.def_ 2 (d := dG "_law_of" 24) rfl
  obtain ⟨d3, F3⟩ := c.def_ 3 (d := dG "_law_some_words" 25) rfl
  obtain ⟨d4, F4⟩ := c.def_ 4 (d := dG "_law_odd_one" 26) rfl
  obtain ⟨d5, F5⟩ := c.def_ 5 (d := dG "_law_is_truth" 27) rfl
  obtain ⟨d6, F6⟩ := c.def_ 6 (d := dG "_law_made_store" 28) rfl
  obtain ⟨d7, F7⟩ := c.def_ 7 (d := dG "_law_words_told" 29) rfl
  obtain ⟨d8, F8⟩ := c.def_ 8 (d := dG "_law_actions" 30) rfl
  obtain ⟨d9, F9⟩ := c.def_ 9 (d := dG "_law_classes" 31) rfl
  obtain ⟨d10, F10⟩ := c.def_ 10 (d := dG "_law_due_classes" 32) rfl
  obtain ⟨d11, F11⟩ := c.def_ 11 (d := dG "_law_right" 33) rfl
  obtain ⟨d12, F12⟩ := c.def_ 12 (d := dG "law" 34) rfl
  obtain ⟨d13, F13⟩ := c.def_ 13 (d := dG "is_name" 7) rfl
  obtain ⟨d14, F14⟩ := c.def_ 14 (d := dG "is_part" 8) rfl
  obtain ⟨d15, F15⟩ := c.def_ 15 (d := dG "look_name" 9) rfl
  obtain ⟨d16, F16⟩ := c.def_ 16 (d := dG "look_parts" 10) rfl
  obtain ⟨d17, F17⟩ := c.def_ 17 (d := dG "look_once" 11) rfl
  obtain ⟨d18, F18⟩ := c.def_ 18 (d := { ad := gI, name := "__init__", qual := "Store.__init__", st := inClass (top 14) 1, kwd := [("under", .non)] }) rfl
  obtain ⟨d19, F19⟩ := c.def_ 19 (d := { ad := gC, name := "__contains__", qual := "Store.__contains__", st := inClass (top 14) 5 }) rfl
  obtain ⟨d20, F20⟩ := c.def_ 20 (d := dM "Store" "actions" "Store.actions" 14 2) rfl
  obtain ⟨d21, F21⟩ := c.def_ 21 (d := dM "Store" "vanishes" "Store.vanishes" 14 3) rfl
  obtain ⟨d22, F22⟩ := c.def_ 22 (d := dM "Store" "counts" "Store.counts" 14 4) rfl
  obtain ⟨d23, F23⟩ := c.def_ 23 (d := dM "Table" "vanishes" "Table.vanishes" 15 2) rfl
  obtain ⟨d24, F24⟩ := c.def_ 24 (d := dM "Table" "counts" "Table.counts" 15 3) rfl
  obtain ⟨d25, F25⟩ := c.def_ 25 (d := dM "Log" "actions" "Log.actions" 16 1) rfl
  obtain ⟨d26, F26⟩ := c.def_ 26 (d := dM "Log" "vanishes" "Log.vanishes" 16 2) rfl
  obtain ⟨d27, F27⟩ := c.def_ 27 (d := dM "Log" "counts" "Log.counts" 16 3) rfl
  obtain ⟨d28, F28⟩ := c.def_ 28 (d := dM "Queue" "actions" "Queue.actions" 17 1) rfl
  obtain ⟨d29, F29⟩ := c.def_ 29 (d := dM "Queue" "vanishes" "Queue.vanishes" 17 2) rfl
  obtain ⟨d30, F30⟩ := c.def_ 30 (d := dM "Queue" "counts" "Queue.counts" 17 3) rfl
  obtain ⟨d31, F31⟩ := c.def_ 31 (d := dM "Answers" "actions" "Answers.actions" 18 1) rfl
  obtain ⟨d32, F32⟩ := c.def_ 32 (d := dM "Answers" "vanishes" "Answers.vanishes" 18 2) rfl
  obtain ⟨d33, F33⟩ := c.def_ 33 (d := dM "Answers" "counts" "Answers.counts" 18 3) rfl
  obtain ⟨d34, F34⟩ := c.def_ 34 (d := dM "Archive" "actions" "Archive.actions" 19 1) rfl
  obtain ⟨d35, F35⟩ := c.def_ 35 (d := dM "Archive" "vanishes" "Archive.vanishes" 19 2) rfl
  obtain ⟨d36, F36⟩ := c.def_ 36 (d := dM "Archive" "counts" "Archive.counts" 19 3) rfl
  obtain ⟨d37, F37⟩ := c.def_ 37 (d := dM "Rolling" "vanishes" "Rolling.vanishes" 20 2) rfl
  have Z0 := c.sup 0 (d := dV "Table" "actions" "Table.actions" 15 1) rfl
  have Z1 := c.sup 1 (d := dV "Rolling" "actions" "Rolling.actions" 20 1) rfl
  have Z2 := c.sup 2 (d := dV "Rolling" "counts" "Rolling.counts" 20 3) rfl
  have e := hfa.symm.trans (gl 12 (x := "law") rfl)
  cases e
  have b := FunD.bindsA (ps := ["_law_script"]) F12 fun _ _ _ _ _ _ us hl => match us, hl with | [_], _ => rfl
  refine ⟨d12, fun s v => b s [v] rfl, fun base KB GB => ?_⟩
  have t := T.toTxt
  have c_draw : Cal P w K mg base 1 "_law_draw" spDraw [] := ⟨_, d1, _, [], o_law_draw t F1 p_law_draw' (fun vs H Q E ⟨b, n, m, M, G, e, _⟩ => by rw [e]; rfl), gl 1 rfl, F1.kp, F1.bindsN fun _ _ _ _ _ _ us hl => match us, hl with | [_, _], _ => rfl, .nil⟩
  have c_bagged : Cal P w K mg base 1 "_law_bagged" (spBagged K) [] := ⟨_, d0, _, [], o_law_bagged t F0 p_law_bagged' (fun vs H Q E ⟨b, n, m, M, G, e, _⟩ => by rw [e]; rfl), gl 0 rfl, F0.kp, F0.bindsN fun _ _ _ _ _ _ us hl => match us, hl with | [_, _], _ => rfl, .nil⟩
  have c_of : Cal P w K mg base 2 "_law_of" (spOf K) [] := ⟨_, d2, _, [], o_law_of t c_draw F2 p_law_of' (fun vs H Q E ⟨b, l, n, m, M, G, e, _⟩ => by rw [e]; rfl), gl 2 rfl, F2.kp, F2.bindsN fun _ _ _ _ _ _ us hl => match us, hl with | [_, _], _ => rfl, .nil⟩
  have c_words : Cal P w K mg base 2 "_law_some_words" spWords [] := ⟨_, d3, _, [], o_law_some_words t c_draw F3 p_law_some_words' (fun vs H Q E ⟨b, n, m, M, G, e, _⟩ => by rw [e]; rfl), gl 3 rfl, F3.kp, F3.bindsN fun _ _ _ _ _ _ us hl => match us, hl with | [_, _], _ => rfl, .nil⟩
  have c_odd : Cal P w K mg base 2 "_law_odd_one" (spOdd K) [] := ⟨_, d4, _, [], o_law_odd_one t c_draw F4 p_law_odd_one' (fun vs H Q E ⟨b, n, m, M, G, e, _⟩ => by rw [e]; rfl), gl 4 rfl, F4.kp, F4.bindsN fun _ _ _ _ _ _ us hl => match us, hl with | [_, _], _ => rfl, .nil⟩
  have c_truth : Cal P w K mg base 1 "_law_is_truth" spTruth [] := ⟨_, d5, _, [], o_law_is_truth t F5 p_law_is_truth' (fun vs H Q E ⟨b, c, e, _⟩ => by rw [e]; rfl), gl 5 rfl, F5.kp, F5.bindsN fun _ _ _ _ _ _ us hl => match us, hl with | [_, _], _ => rfl, .nil⟩
  have c_isn : Cal P w K mg base 1 "is_name" (spIsName K) [] := ⟨_, d13, _, [], o_is_name t F13 p_is_name' (fun vs H Q E ⟨v, e, _⟩ => by rw [e]; rfl), gl 13 rfl, F13.kp, F13.bindsN fun _ _ _ _ _ _ us hl => match us, hl with | [_], _ => rfl, .nil⟩
  have c_isp : Cal P w K mg base 2 "is_part" (spIsPart K) [] := ⟨_, d14, _, [], o_is_part t c_isn F14 p_is_part' (fun vs H Q E ⟨v, e, _⟩ => by rw [e]; rfl), gl 14 rfl, F14.kp, F14.bindsN fun _ _ _ _ _ _ us hl => match us, hl with | [_], _ => rfl, .nil⟩
  have c_ln : Cal P w K mg base 2 "look_name" spLookName [] := ⟨_, d15, _, [], o_look_name t c_isn F15 p_look_name' (fun vs H Q E ⟨v, e, _⟩ => by rw [e]; rfl), gl 15 rfl, F15.kp, F15.bindsN fun _ _ _ _ _ _ us hl => match us, hl with | [_], _ => rfl, .nil⟩
  have c_lp : Cal P w K mg base 3 "look_parts" (spLookParts K) [] := ⟨_, d16, _, [], o_look_parts t c_isp F16 p_look_parts' (fun vs H Q E ⟨v, ws, e, _⟩ => by rw [e]; rfl), gl 16 rfl, F16.kp, F16.bindsN fun _ _ _ _ _ _ us hl => match us, hl with | [_], _ => rfl, .nil⟩
  have c_lo : Cal P w K mg base 1 "look_once" (spLookOnce K) [] := ⟨_, d17, _, [], o_look_once t F17 p_look_once' (fun vs H Q E ⟨v, ws, M, G, e, _⟩ => by rw [e]; rfl), gl 17 rfl, F17.kp, F17.bindsN fun _ _ _ _ _ _ us hl => match us, hl with | [_], _ => rfl, .nil⟩
  have f_init : FnK P w K mg base CX0 4 (gI K) ["under", "refs", "fields"] (spInitK K) := by
    have O := o_Storex_initx T c_ln c_lp c_lo F18 p_Storex_initx' (fun vs H Q E ⟨x, C, dx, p, q, M, G, s, e, _⟩ => by rw [e]; rfl)
    obtain ⟨mv, hb⟩ := FunD.kbinds0 (ps := p_Storex_initx) F18 2 ["under", "refs", "fields"] [] (fun us _ ws => us ++ ws) (by intro z; cases z) (by intro q hq; cases hq) (fun r _ rz => r.append rz)
      (fun D doc pm an cdv ct us mv ws l1 l2 l3 => match us, l1, ws, l3 with | [_, _], _, [_, _, _], _ => rfl)
    exact fnk_kb O hb
  have mk : ∀ (i : Nat) {q : Str × Str}, q ∈ kinds → gloNames[i]? = some q.1 → Mkr P w K mg base 4 q.1 (ga K q.1) ["under", "refs", "fields"] (spInitK K) := fun i q hq hg => ⟨⟨_, (T.kd q hq).mkr, f_init⟩, T.gl i hg⟩
  have c_made : Cal P w K mg base 6 "_law_made_store" (spMade K) [] := ⟨_, d6, _, [], o_law_made_store T (mk 1 (q := ("Table", "table")) (by decide) rfl) (mk 2 (q := ("Log", "log")) (by decide) rfl) (mk 3 (q := ("Queue", "queue")) (by decide) rfl) (mk 4 (q := ("Answers", "answers")) (by decide) rfl) (mk 5 (q := ("Archive", "archive")) (by decide) rfl) (mk 6 (q := ("Rolling", "rolling")) (by decide) rfl) (mk 0 (q := ("Store", "store")) (by decide) rfl) F6 (p_law_made_store' T) (fun vs H Q E ⟨a, M, G, s, e, _⟩ => by rw [e]; rfl), gl 6 rfl, F6.kp, F6.bindsN fun _ _ _ _ _ _ us hl => match us, hl with | [_], _ => rfl, .nil⟩
  have r_Store_actions : FnR P w K mg base CX0 1 (am "Store" "actions" K) (spActs ["blank", "change", "cut", "delete", "drop"]) := by
    have O := o_Store_actions (P := P) (w := w) (base := base) T F20 p_Store_actions' (fun vs H Q E ⟨v, e, _⟩ => by rw [e]; rfl)
    exact (FnOk.raw O (F20.bindsN fun _ _ _ _ _ _ us hl => match us, hl with | [_], _ => rfl) .nil).imp fun vs H Q E h => by rw [List.append_nil]; exact h
  have r_Store_vanishes : FnR P w K mg base CX0 1 (am "Store" "vanishes" K) (spB false) := by
    have O := o_Store_vanishes (P := P) (w := w) (base := base) T F21 p_Store_vanishes' (fun vs H Q E ⟨v, e, _⟩ => by rw [e]; rfl)
    exact (FnOk.raw O (F21.bindsN fun _ _ _ _ _ _ us hl => match us, hl with | [_], _ => rfl) .nil).imp fun vs H Q E h => by rw [List.append_nil]; exact h
  have r_Store_counts : FnR P w K mg base CX0 1 (am "Store" "counts" K) (spB true) := by
    have O := o_Store_counts (P := P) (w := w) (base := base) T F22 p_Store_counts' (fun vs H Q E ⟨v, e, _⟩ => by rw [e]; rfl)
    exact (FnOk.raw O (F22.bindsN fun _ _ _ _ _ _ us hl => match us, hl with | [_], _ => rfl) .nil).imp fun vs H Q E h => by rw [List.append_nil]; exact h
  have r_Table_vanishes : FnR P w K mg base CX0 1 (am "Table" "vanishes" K) (spB false) := by
    have O := o_Table_vanishes (P := P) (w := w) (base := base) T F23 p_Table_vanishes' (fun vs H Q E ⟨v, e, _⟩ => by rw [e]; rfl)
    exact (FnOk.raw O (F23.bindsN fun _ _ _ _ _ _ us hl => match us, hl with | [_], _ => rfl) .nil).imp fun vs H Q E h => by rw [List.append_nil]; exact h
  have r_Table_counts : FnR P w K mg base CX0 1 (am "Table" "counts" K) (spB true) := by
    have O := o_Table_counts (P := P) (w := w) (base := base) T F24 p_Table_counts' (fun vs H Q E ⟨v, e, _⟩ => by rw [e]; rfl)
    exact (FnOk.raw O (F24.bindsN fun _ _ _ _ _ _ us hl => match us, hl with | [_], _ => rfl) .nil).imp fun vs H Q E h => by rw [List.append_nil]; exact h
  have r_Log_actions : FnR P w K mg base CX0 1 (am "Log" "actions" K) (spActs ["blank", "cut"]) := by
    have O := o_Log_actions (P := P) (w := w) (base := base) T F25 p_Log_actions' (fun vs H Q E ⟨v, e, _⟩ => by rw [e]; rfl)
    exact (FnOk.raw O (F25.bindsN fun _ _ _ _ _ _ us hl => match us, hl with | [_], _ => rfl) .nil).imp fun vs H Q E h => by rw [List.append_nil]; exact h
  have r_Log_vanishes : FnR P w K mg base CX0 1 (am "Log" "vanishes" K) (spB false) := by
    have O := o_Log_vanishes (P := P) (w := w) (base := base) T F26 p_Log_vanishes' (fun vs H Q E ⟨v, e, _⟩ => by rw [e]; rfl)
    exact (FnOk.raw O (F26.bindsN fun _ _ _ _ _ _ us hl => match us, hl with | [_], _ => rfl) .nil).imp fun vs H Q E h => by rw [List.append_nil]; exact h
  have r_Log_counts : FnR P w K mg base CX0 1 (am "Log" "counts" K) (spB true) := by
    have O := o_Log_counts (P := P) (w := w) (base := base) T F27 p_Log_counts' (fun vs H Q E ⟨v, e, _⟩ => by rw [e]; rfl)
    exact (FnOk.raw O (F27.bindsN fun _ _ _ _ _ _ us hl => match us, hl with | [_], _ => rfl) .nil).imp fun vs H Q E h => by rw [List.append_nil]; exact h
  have r_Queue_actions : FnR P w K mg base CX0 1 (am "Queue" "actions" K) (spActs ["delete", "drop"]) := by
    have O := o_Queue_actions (P := P) (w := w) (base := base) T F28 p_Queue_actions' (fun vs H Q E ⟨v, e, _⟩ => by rw [e]; rfl)
    exact (FnOk.raw O (F28.bindsN fun _ _ _ _ _ _ us hl => match us, hl with | [_], _ => rfl) .nil).imp fun vs H Q E h => by rw [List.append_nil]; exact h
  have r_Queue_vanishes : FnR P w K mg base CX0 1 (am "Queue" "vanishes" K) (spB false) := by
    have O := o_Queue_vanishes (P := P) (w := w) (base := base) T F29 p_Queue_vanishes' (fun vs H Q E ⟨v, e, _⟩ => by rw [e]; rfl)
    exact (FnOk.raw O (F29.bindsN fun _ _ _ _ _ _ us hl => match us, hl with | [_], _ => rfl) .nil).imp fun vs H Q E h => by rw [List.append_nil]; exact h
  have r_Queue_counts : FnR P w K mg base CX0 1 (am "Queue" "counts" K) (spB true) := by
    have O := o_Queue_counts (P := P) (w := w) (base := base) T F30 p_Queue_counts' (fun vs H Q E ⟨v, e, _⟩ => by rw [e]; rfl)
    exact (FnOk.raw O (F30.bindsN fun _ _ _ _ _ _ us hl => match us, hl with | [_], _ => rfl) .nil).imp fun vs H Q E h => by rw [List.append_nil]; exact h
  have r_Answers_actions : FnR P w K mg base CX0 1 (am "Answers" "actions" K) (spActs ["delete", "drop"]) := by
    have O := o_Answers_actions (P := P) (w := w) (base := base) T F31 p_Answers_actions' (fun vs H Q E ⟨v, e, _⟩ => by rw [e]; rfl)
    exact (FnOk.raw O (F31.bindsN fun _ _ _ _ _ _ us hl => match us, hl with | [_], _ => rfl) .nil).imp fun vs H Q E h => by rw [List.append_nil]; exact h
  have r_Answers_vanishes : FnR P w K mg base CX0 1 (am "Answers" "vanishes" K) (spB true) := by
    have O := o_Answers_vanishes (P := P) (w := w) (base := base) T F32 p_Answers_vanishes' (fun vs H Q E ⟨v, e, _⟩ => by rw [e]; rfl)
    exact (FnOk.raw O (F32.bindsN fun _ _ _ _ _ _ us hl => match us, hl with | [_], _ => rfl) .nil).imp fun vs H Q E h => by rw [List.append_nil]; exact h
  have r_Answers_counts : FnR P w K mg base CX0 1 (am "Answers" "counts" K) (spB true) := by
    have O := o_Answers_counts (P := P) (w := w) (base := base) T F33 p_Answers_counts' (fun vs H Q E ⟨v, e, _⟩ => by rw [e]; rfl)
    exact (FnOk.raw O (F33.bindsN fun _ _ _ _ _ _ us hl => match us, hl with | [_], _ => rfl) .nil).imp fun vs H Q E h => by rw [List.append_nil]; exact h
  have r_Archive_actions : FnR P w K mg base CX0 1 (am "Archive" "actions" K) (spActs ["drop"]) := by
    have O := o_Archive_actions (P := P) (w := w) (base := base) T F34 p_Archive_actions' (fun vs H Q E ⟨v, e, _⟩ => by rw [e]; rfl)
    exact (FnOk.raw O (F34.bindsN fun _ _ _ _ _ _ us hl => match us, hl with | [_], _ => rfl) .nil).imp fun vs H Q E h => by rw [List.append_nil]; exact h
  have r_Archive_vanishes : FnR P w K mg base CX0 1 (am "Archive" "vanishes" K) (spB false) := by
    have O := o_Archive_vanishes (P := P) (w := w) (base := base) T F35 p_Archive_vanishes' (fun vs H Q E ⟨v, e, _⟩ => by rw [e]; rfl)
    exact (FnOk.raw O (F35.bindsN fun _ _ _ _ _ _ us hl => match us, hl with | [_], _ => rfl) .nil).imp fun vs H Q E h => by rw [List.append_nil]; exact h
  have r_Archive_counts : FnR P w K mg base CX0 1 (am "Archive" "counts" K) (spB false) := by
    have O := o_Archive_counts (P := P) (w := w) (base := base) T F36 p_Archive_counts' (fun vs H Q E ⟨v, e, _⟩ => by rw [e]; rfl)
    exact (FnOk.raw O (F36.bindsN fun _ _ _ _ _ _ us hl => match us, hl with | [_], _ => rfl) .nil).imp fun vs H Q E h => by rw [List.append_nil]; exact h
  have s_av : Stt P w K mg base 1 (ga K "Answers") "vanishes" [] (spBK true) := by
    refine ⟨_, _, T.st, ?_⟩
    rw [T.se]
    intro A outer s H us vs ws zs Q E hr e0 r rz l ⟨_, q⟩
    exact r_Answers_vanishes A outer s H us vs Q E hr e0 r q
  have r_Rolling_vanishes : FnR P w K mg base CX0 2 (am "Rolling" "vanishes" K) (spB true) := by
    have O := o_Rolling_vanishes (P := P) (w := w) (base := base) T s_av F37 p_Rolling_vanishes' (fun vs H Q E ⟨v, e, _⟩ => by rw [e]; rfl)
    exact (FnOk.raw O (F37.bindsN fun _ _ _ _ _ _ us hl => match us, hl with | [_], _ => rfl) .nil).imp fun vs H Q E h => by rw [List.append_nil]; exact h
  subst hP
  have u_ta := SupF.fn (P := PySem.Challenge.pw_erasedtrails_k06_stores_by_kind) (w := w) (mg := mg) (base := base) (ar := ((defArgs (inClass (top 15) 1)).posonlyargs ++ (defArgs (inClass (top 15) 1)).args).head?.getD ⟨"", none, ⟨0, 0, 0, 0⟩⟩) Z0 ss0 rfl (fun _ _ _ _ _ _ _ _ => rfl) (fun _ _ _ => rfl) T.su (by decide +kernel) T.tp (by decide) r_Store_actions
  have u_ra := SupF.fn (P := PySem.Challenge.pw_erasedtrails_k06_stores_by_kind) (w := w) (mg := mg) (base := base) (ar := ((defArgs (inClass (top 20) 1)).posonlyargs ++ (defArgs (inClass (top 20) 1)).args).head?.getD ⟨"", none, ⟨0, 0, 0, 0⟩⟩) Z1 ss1 rfl (fun _ _ _ _ _ _ _ _ => rfl) (fun _ _ _ => rfl) T.su (by decide +kernel) T.tp (by decide) r_Archive_actions
  have u_rc := SupF.fn (P := PySem.Challenge.pw_erasedtrails_k06_stores_by_kind) (w := w) (mg := mg) (base := base) (ar := ((defArgs (inClass (top 20) 3)).posonlyargs ++ (defArgs (inClass (top 20) 3)).args).head?.getD ⟨"", none, ⟨0, 0, 0, 0⟩⟩) Z2 ss2 rfl (fun _ _ _ _ _ _ _ _ => rfl) (fun _ _ _ => rfl) T.su (by decide +kernel) T.tp (by decide) r_Archive_counts
  have d_actions : Disp PySem.Challenge.pw_erasedtrails_k06_stores_by_kind w K mg base 2 (kindCs K) "actions" (spMActs K) := by
    intro C hC
    obtain ⟨k, hk, rfl⟩ := List.mem_map.mp hC
    have hk0 := hk
    simp only [kinds, List.mem_cons, List.not_mem_nil, or_false] at hk
    refine ⟨(T.kd k hk0).cf.cls, _, (T.kd k hk0).ac, ?_⟩
    rcases hk with rfl | rfl | rfl | rfl | rfl | rfl | rfl
    · refine FnR.imp (r_Store_actions.mono (by decide)) fun vs H Q Er h => ?_
      obtain ⟨x, dx, fs, e, hx, q⟩ := disp_a T hk0 h
      rw [acts_0] at q
      exact ⟨.ref x, e, q⟩
    · refine FnR.imp u_ta fun vs H Q Er h => ?_
      obtain ⟨x, dx, fs, e, hx, q⟩ := disp_a T hk0 h
      rw [acts_1] at q
      exact ⟨x, _, dx, fs, e, hx, T.s1, .ref x, rfl, q⟩
    · refine FnR.imp (r_Log_actions.mono (by decide)) fun vs H Q Er h => ?_
      obtain ⟨x, dx, fs, e, hx, q⟩ := disp_a T hk0 h
      rw [acts_2] at q
      exact ⟨.ref x, e, q⟩
    · refine FnR.imp (r_Queue_actions.mono (by decide)) fun vs H Q Er h => ?_
      obtain ⟨x, dx, fs, e, hx, q⟩ := disp_a T hk0 h
      rw [acts_3] at q
      exact ⟨.ref x, e, q⟩
    · refine FnR.imp (r_Answers_actions.mono (by decide)) fun vs H Q Er h => ?_
      obtain ⟨x, dx, fs, e, hx, q⟩ := disp_a T hk0 h
      rw [acts_4] at q
      exact ⟨.ref x, e, q⟩
    · refine FnR.imp (r_Archive_actions.mono (by decide)) fun vs H Q Er h => ?_
      obtain ⟨x, dx, fs, e, hx, q⟩ := disp_a T hk0 h
      rw [acts_5] at q
      exact ⟨.ref x, e, q⟩
    · refine FnR.imp u_ra fun vs H Q Er h => ?_
      obtain ⟨x, dx, fs, e, hx, q⟩ := disp_a T hk0 h
      rw [acts_6] at q
      exact ⟨x, _, dx, fs, e, hx, T.s2, .ref x, rfl, q⟩
  have d_vanishes : Disp PySem.Challenge.pw_erasedtrails_k06_stores_by_kind w K mg base 2 (kindCs K) "vanishes" (spMB K van) := by
    intro C hC
    obtain ⟨k, hk, rfl⟩ := List.mem_map.mp hC
    have hk0 := hk
    simp only [kinds, List.mem_cons, List.not_mem_nil, or_false] at hk
    refine ⟨(T.kd k hk0).cf.cls, _, (T.kd k hk0).va, ?_⟩
    rcases hk with rfl | rfl | rfl | rfl | rfl | rfl | rfl
    · refine FnR.imp (r_Store_vanishes.mono (by decide)) fun vs H Q Er h => ?_
      obtain ⟨x, dx, fs, e, hx, q⟩ := disp_b T hk0 h
      exact ⟨.ref x, e, q⟩
    · refine FnR.imp (r_Table_vanishes.mono (by decide)) fun vs H Q Er h => ?_
      obtain ⟨x, dx, fs, e, hx, q⟩ := disp_b T hk0 h
      exact ⟨.ref x, e, q⟩
    · refine FnR.imp (r_Log_vanishes.mono (by decide)) fun vs H Q Er h => ?_
      obtain ⟨x, dx, fs, e, hx, q⟩ := disp_b T hk0 h
      exact ⟨.ref x, e, q⟩
    · refine FnR.imp (r_Queue_vanishes.mono (by decide)) fun vs H Q Er h => ?_
      obtain ⟨x, dx, fs, e, hx, q⟩ := disp_b T hk0 h
      exact ⟨.ref x, e, q⟩
    · refine FnR.imp (r_Answers_vanishes.mono (by decide)) fun vs H Q Er h => ?_
      obtain ⟨x, dx, fs, e, hx, q⟩ := disp_b T hk0 h
      exact ⟨.ref x, e, q⟩
    · refine FnR.imp (r_Archive_vanishes.mono (by decide)) fun vs H Q Er h => ?_
      obtain ⟨x, dx, fs, e, hx, q⟩ := disp_b T hk0 h
      exact ⟨.ref x, e, q⟩
    · refine FnR.imp (r_Rolling_vanishes.mono (by decide)) fun vs H Q Er h => ?_
      obtain ⟨x, dx, fs, e, hx, q⟩ := disp_b T hk0 h
      exact ⟨.ref x, e, q⟩
  have d_counts : Disp PySem.Challenge.pw_erasedtrails_k06_stores_by_kind w K mg base 2 (kindCs K) "counts" (spMB K cnt) := by
    intro C hC
    obtain ⟨k, hk, rfl⟩ := List.mem_map.mp hC
    have hk0 := hk
    simp only [kinds, List.mem_cons, List.not_mem_nil, or_false] at hk
    refine ⟨(T.kd k hk0).cf.cls, _, (T.kd k hk0).co, ?_⟩
    rcases hk with rfl | rfl | rfl | rfl | rfl | rfl | rfl
    · refine FnR.imp (r_Store_counts.mono (by decide)) fun vs H Q Er h => ?_
      obtain ⟨x, dx, fs, e, hx, q⟩ := disp_b T hk0 h
      exact ⟨.ref x, e, q⟩
    · refine FnR.imp (r_Table_counts.mono (by decide)) fun vs H Q Er h => ?_
      obtain ⟨x, dx, fs, e, hx, q⟩ := disp_b T hk0 h
      exact ⟨.ref x, e, q⟩
    · refine FnR.imp (r_Log_counts.mono (by decide)) fun vs H Q Er h => ?_
      obtain ⟨x, dx, fs, e, hx, q⟩ := disp_b T hk0 h
      exact ⟨.ref x, e, q⟩
    · refine FnR.imp (r_Queue_counts.mono (by decide)) fun vs H Q Er h => ?_
      obtain ⟨x, dx, fs, e, hx, q⟩ := disp_b T hk0 h
      exact ⟨.ref x, e, q⟩
    · refine FnR.imp (r_Answers_counts.mono (by decide)) fun vs H Q Er h => ?_
      obtain ⟨x, dx, fs, e, hx, q⟩ := disp_b T hk0 h
      exact ⟨.ref x, e, q⟩
    · refine FnR.imp (r_Archive_counts.mono (by decide)) fun vs H Q Er h => ?_
      obtain ⟨x, dx, fs, e, hx, q⟩ := disp_b T hk0 h
      exact ⟨.ref x, e, q⟩
    · refine FnR.imp u_rc fun vs H Q Er h => ?_
      obtain ⟨x, dx, fs, e, hx, q⟩ := disp_b T hk0 h
      exact ⟨x, _, dx, fs, e, hx, T.s3, .ref x, rfl, q⟩
  have f_c : FnR PySem.Challenge.pw_erasedtrails_k06_stores_by_kind w K mg base CX0 3 (gC K) (spContains K) := by
    have O := o_Storex_containsx (w := w) T d_actions F19 (p_Storex_containsx' T) (fun vs H Q E ⟨x, v, M, G, s, e, _⟩ => by rw [e]; rfl)
    exact (FnOk.raw O (F19.bindsN fun _ _ _ _ _ _ us hl => match us, hl with | [_, _], _ => rfl) .nil).imp fun vs H Q E h => by rw [List.append_nil]; exact h
  have c_told : Cal PySem.Challenge.pw_erasedtrails_k06_stores_by_kind w K mg base 1 "_law_words_told" spTold [] := ⟨_, d7, _, [], o_law_words_told T F7 (p_law_words_told' T) (fun vs H Q E ⟨M, G, e, _⟩ => by rw [e]; rfl), gl 7 rfl, F7.kp, F7.bindsN fun _ _ _ _ _ _ us hl => match us, hl with | [], _ => rfl, .nil⟩
  have c_act : Cal PySem.Challenge.pw_erasedtrails_k06_stores_by_kind w K mg base 1 "_law_actions" spLActs [] := ⟨_, d8, _, [], o_law_actions T F8 p_law_actions' (fun vs H Q E ⟨wd, M, G, e, _⟩ => by rw [e]; rfl), gl 8 rfl, F8.kp, F8.bindsN fun _ _ _ _ _ _ us hl => match us, hl with | [_], _ => rfl, .nil⟩
  have c_cls : Cal PySem.Challenge.pw_erasedtrails_k06_stores_by_kind w K mg base 1 "_law_classes" (spClasses K) [] := ⟨_, d9, _, [], o_law_classes T F9 (p_law_classes' T) (fun vs H Q E ⟨x, M, G, s, e, _⟩ => by rw [e]; rfl), gl 9 rfl, F9.kp, F9.bindsN fun _ _ _ _ _ _ us hl => match us, hl with | [_], _ => rfl, .nil⟩
  have c_due : Cal PySem.Challenge.pw_erasedtrails_k06_stores_by_kind w K mg base 1 "_law_due_classes" (spDueC K) [] := ⟨_, d10, _, [], o_law_due_classes T F10 p_law_due_classes' (fun vs H Q E ⟨wd, l, M, G, e, _⟩ => by rw [e]; rfl), gl 10 rfl, F10.kp, F10.bindsN fun _ _ _ _ _ _ us hl => match us, hl with | [_, _], _ => rfl, .nil⟩
  have c_right : Cal PySem.Challenge.pw_erasedtrails_k06_stores_by_kind w K mg base 7 "_law_right" (spRight K) [] := ⟨_, d11, _, [], o_law_right T c_words c_draw c_of c_made c_act c_truth c_odd c_cls c_due d_actions d_vanishes d_counts f_c F11 (p_law_right' T) (fun vs H Q E ⟨b, l, wd, n, M, G, e, _⟩ => by rw [e]; rfl), gl 11 rfl, F11.kp, F11.bindsN fun _ _ _ _ _ _ us hl => match us, hl with | [_, _, _], _ => rfl, .nil⟩
  exact o_law T c_told c_bagged c_right F12 p_law' (fun vs H Q E ⟨a, ns, e, _⟩ => by rw [e]; rfl)
end
end E

open PySem PySem.W PySem.Calls PyProof.Rows
theorem PySem.Challenge.cw_erasedtrails_k06_stores_by_kind_holds : PySem.Challenge.rw_erasedtrails_k06_stores_by_kind.Holds := by
  w_on; o_law
  refine HandSHeadRun.head_any (r := OpenLaw.row PySem.Challenge.rw_erasedtrails_k06_stores_by_kind) (q := view (OpenLaw.row PySem.Challenge.rw_erasedtrails_k06_stores_by_kind).prog [34]) (H := E.hk) (ob := E.ob) (M := 20000) (loose := E.loose) (d := HandSHeadRun.topDef (OpenLaw.row PySem.Challenge.rw_erasedtrails_k06_stores_by_kind).prog 34) (kwd := []) E.ob_eq
    (by kernel_rfl) (fun s => by kernel_rfl) E.run (by kernel_rfl) (by kernel_rfl) (by kernel_rfl) (by rfl) (by first | assumption | decide +kernel) (by decide +kernel) ⟨rfl, rfl, rfl, rfl, rfl, by decide +kernel⟩ ?hw ?hc
  case hw => w_witness2
  case hc =>
    refine L2.walk_ofE (l := PySem.Challenge.rw_erasedtrails_k06_stores_by_kind) (n := 63) (k := 8) (x := "_law_script") (CX := L2.CX0) rfl (by decide) (by kernel_rfl) ⟨rfl, by decide, by decide⟩ ?F (fun _ _ _ _ z => z)
    intro w mg fa h Y G hmg0
    obtain ⟨K, KX, c⟩ := Y
    have hmg : mg ("law" : PySem.Str) = some (.ref fa) := by
      have e : (HandSHeadRun.topDef (OpenLaw.row PySem.Challenge.rw_erasedtrails_k06_stores_by_kind).prog 34).name = ("law" : PySem.Str) := by kernel_rfl
      rw [← e]
      exact hmg0
    obtain ⟨fd, hb, hF⟩ := E.facts (P := (PySem.Challenge.rw_erasedtrails_k06_stores_by_kind).prog) (w := w) rfl KX G hmg c
    exact ⟨K, fd, E.spLaw K, KX, hb, fun H a ns hl _ hS => ⟨a, ns, rfl, hS, fun _ => rfl⟩, hF⟩
