import PyProof.Rows.All
import Wide.All
import OpenK.AllK
import Wide.FinOn
import HandS.ForMost
import HandS.ForExc
import HandS.Wide
import HandS.Defaults
import HandS.Flow
import HandS.Evl
import HandS.IsInst
import HandS.SetKeys
import HandS.TupAny
import HandS.MakeKwOnly
import HandS.ClsMeth
import HandS.Codes
import HandS.Star
import HandS.Property
import HandS.TryMany
import HandS.ExcField
import HandS.ExcIs
import HandS.ExcInit
import HandS.SlotsOwn
import HandS.More
import HandS.Head0
import HandS.Head1
import HandS.Head2
import HandS.HeadEnd
import HandS.HeadHook1
import HandS.HeadHook2
import HandS.Ends
import HandS.Words
import KE.KStateDown
import HandS.Style
import KE.KSuper
import KE.KExcInit
import PyProof.ExcBaseAll.OverflowError
import PyProof.ExcBaseAll.LookupError
import PyProof.ExcBaseAll.RuntimeError
import PyProof.ExcBaseAll.ValueError
import HandS.ExcOwn
import HandS.WordsExc
import PyProof.Rows.ReprR
import KE.GoesMore
import HandS.Set
import PyProof.Rows.SortStr
import HandS.SortOrd
import HandS.FStr
import PySem.Challenge.RW_erasedtrails_k01_values_made
set_option Elab.async false
set_option linter.all false
set_option maxRecDepth 100000
set_option maxHeartbeats 0
/-! The views: G the part of the heap that stands for good, M the objects that may still change -/
namespace E
open PySem L2 Evl
abbrev MM := List (Addr × (HO → Prop))
structure Vw (M : MM) (G H : Hp) : Prop where
  ex : Ex G H
  mu : ∀ q ∈ M, G q.1 = none ∧ ∃ o, H q.1 = some o ∧ q.2 o
  nd : (M.map (·.1)).Nodup
section
variable {M : MM} {G G' H H' : Hp} {a p : Addr} {o o' : HO} {φ ψ : HO → Prop} {q q' : Addr × (HO → Prop)}
theorem ex_upd {G H : Hp} (e : Ex G H) (p : Addr) (o : HO) : Ex (upd G p o) (upd H p o) := fun b u h => by
  by_cases hb : b = p
  · subst hb
    rw [upd_same] at h ⊢
    exact h
  · rw [upd_ne hb] at h ⊢
    exact e b u h
theorem Vw.free (w : Vw M G H) (h : H p = none) : G p = none := fresh_back w.ex h
theorem Vw.ne (w : Vw M G H) (hq : q ∈ M) (h : H p = none) : q.1 ≠ p := by
  obtain ⟨_, u, e, _⟩ := w.mu q hq
  exact ne_of_none e h
theorem Vw.new (w : Vw M G H) (h : H p = none) : Vw M (upd G p o) (upd H p o) :=
  ⟨ex_upd w.ex p o, fun q hq => by
    obtain ⟨g, u, e, f⟩ := w.mu q hq
    have n := w.ne hq h
    exact ⟨by rw [upd_ne n]; exact g, u, by rw [upd_ne n]; exact e, f⟩, w.nd⟩
theorem Vw.newM (w : Vw M G H) (h : H p = none) (f : φ o) : Vw ((p, φ) :: M) G (upd H p o) :=
  ⟨w.ex.mut (w.free h), fun q hq => by
    rcases List.mem_cons.mp hq with rfl | hq
    · exact ⟨w.free h, o, upd_same, f⟩
    · obtain ⟨g, u, e, f⟩ := w.mu q hq
      exact ⟨g, u, by rw [upd_ne (w.ne hq h)]; exact e, f⟩, by
    rw [List.map_cons, List.nodup_cons]
    exact ⟨fun z => by
      obtain ⟨q, hq, e⟩ := List.mem_map.mp z
      exact w.ne hq h e, w.nd⟩⟩
theorem Vw.get (w : Vw ((a, φ) :: M) G H) : ∃ o, H a = some o ∧ φ o := (w.mu _ List.mem_cons_self).2
theorem Vw.out (w : Vw ((a, φ) :: M) G H) : G a = none := (w.mu _ List.mem_cons_self).1
theorem Vw.put (w : Vw ((a, φ) :: M) G H) (f : ψ o) : Vw ((a, ψ) :: M) G (upd H a o) :=
  ⟨w.ex.mut w.out, fun q hq => by
    rcases List.mem_cons.mp hq with rfl | hq'
    · exact ⟨w.out, o, upd_same, f⟩
    · obtain ⟨g, u, e, f⟩ := w.mu q (List.mem_cons_of_mem _ hq')
      have n := (List.nodup_cons.mp w.nd).1
      exact ⟨g, u, by rw [upd_ne fun z => n (List.mem_map.mpr ⟨q, hq', z⟩)]; exact e, f⟩, w.nd⟩
theorem Vw.imp (w : Vw ((a, φ) :: M) G H) (f : ∀ o, φ o → ψ o) : Vw ((a, ψ) :: M) G H :=
  ⟨w.ex, fun q hq => by
    rcases List.mem_cons.mp hq with rfl | hq
    · obtain ⟨g, u, e, k⟩ := w.mu _ List.mem_cons_self
      exact ⟨g, u, e, f _ k⟩
    · exact w.mu q (List.mem_cons_of_mem _ hq), w.nd⟩
theorem Vw.tail (w : Vw (q :: M) G H) : Vw M G H := ⟨w.ex, fun p hp => w.mu p (List.mem_cons_of_mem _ hp), (List.nodup_cons.mp w.nd).2⟩
theorem Vw.swap (w : Vw (q :: q' :: M) G H) : Vw (q' :: q :: M) G H :=
  ⟨w.ex, fun p hp => w.mu p (by
    rcases List.mem_cons.mp hp with rfl | hp
    · exact List.mem_cons_of_mem _ List.mem_cons_self
    · rcases List.mem_cons.mp hp with rfl | hp
      · exact List.mem_cons_self
      · exact List.mem_cons_of_mem _ (List.mem_cons_of_mem _ hp)), by
    have n := w.nd
    simp only [List.map_cons, List.nodup_cons, List.mem_cons, not_or] at n ⊢
    exact ⟨⟨fun z => n.1.1 z.symm, n.2.1⟩, n.1.2, n.2.2⟩⟩
/-- what may change no more -/
theorem Vw.frz (w : Vw ((a, (· = o)) :: M) G H) : Vw M (upd G a o) H := by
  obtain ⟨u, e, f⟩ := w.get
  have f' : u = o := f
  subst f'
  refine ⟨fun b v h => ?_, fun q hq => ?_, w.tail.nd⟩
  · by_cases hb : b = a
    · subst hb
      rw [upd_same] at h
      cases h
      exact e
    · rw [upd_ne hb] at h
      exact w.ex b v h
  · obtain ⟨g, u, e, f⟩ := w.mu q (List.mem_cons_of_mem _ hq)
    have n := (List.nodup_cons.mp w.nd).1
    exact ⟨by rw [upd_ne fun z => n (List.mem_map.mpr ⟨q, hq, z⟩)]; exact g, u, e, f⟩
theorem Vw.frz_ex (w : Vw ((a, φ) :: M) G H) : Ex G (upd G a o) := Ex.new w.out
theorem Vw.plain (e : Ex G H) : Vw [] G H := ⟨e, (fun _ h => nomatch h), List.nodup_nil⟩
/-- a new object that stands for good -/
theorem new_im {Q : VK} (w : Vw M G H) (k : ∀ (p : Addr) (G' H' : Hp), Ex G G' → G p = none → G' p = some o → Vw M G' H' → Q (.ref p) H') : ∀ p, H p = none → Q (.ref p) (upd H p o) := fun p h =>
  k p (upd G p o) (upd H p o) (Ex.new (w.free h)) (w.free h) upd_same (w.new h)
/-- a new object that may change -/
theorem new_mu {Q : VK} (w : Vw M G H) (k : ∀ (p : Addr) (H' : Hp), G p = none → Vw ((p, (· = o)) :: M) G H' → Q (.ref p) H') : ∀ p, H p = none → Q (.ref p) (upd H p o) := fun p h =>
  k p (upd H p o) (w.free h) (w.newM h rfl)
end
/-! ### the steps of a reading -/
def isB (x : V) (k : Bool → Prop) : Prop := ∃ b, x = .bl b ∧ k b
section
variable {K : PySem.W.Frag} {σ : L2.St} {H : Hp} {D : Ends} {Q : VK} {ta tb tc te : TE} {t u : TS} {tt tu : TT} {R : Bool → Hp → Prop} {i j : Int} {v : V} {b : Bool}
theorem g_seq (h : t { D with nx := u D } σ H) : tSeq t u D σ H := h
theorem g_next (h : D.nx σ H) : tNext D σ H := h
theorem g_asg {g : TG} (h : te σ H fun x H1 => g x σ H1 D.nx) : tAsg te g D σ H := h
theorem g_name {i : Nat} {S : L2.St → Hp → Prop} (h : S (σ.set i (some v)) H) : gName i v σ H S := h
theorem g_ret (h : te σ H D.rt) : tRet te D σ H := h
theorem g_retN (h : D.rt .non H) : tRetN D σ H := h
theorem g_drop (h : te σ H fun _ H1 => D.nx σ H1) : tDrop te D σ H := h
theorem g_ifS (h : tt σ H fun b H1 => if b = true then t D σ H1 else u D σ H1) : tIfS tt t u D σ H := h
theorem g_var {i : Nat} (h : σ[i]? = some (some v)) (q : Q v H) : tVar i σ H Q := ⟨v, h, q⟩
theorem g_c (q : Q v H) : tC v σ H Q := q
theorem g_op {r : R2} (h : ta σ H fun x H1 => tb σ H1 fun y H2 => r x y H2 Q) : tOp r ta tb σ H Q := h
theorem g_un {r : V → Hp → VK → Prop} (h : ta σ H fun x H1 => r x H1 Q) : tUn r ta σ H Q := h
theorem g_test (h : te σ H fun x H1 => isB x fun b => R b H1) : tTest te σ H R := h
theorem g_tB (h : te σ H fun x H1 => isB x fun b => R b H1) : tB te σ H R := h
theorem g_isB {k : Bool → Prop} (h : k b) : isB (.bl b) k := ⟨b, rfl, h⟩
theorem g_and (h : tt σ H fun c H1 => if c = true then tu σ H1 R else R false H1) : tAnd tt tu σ H R := h
theorem g_or (h : tt σ H fun c H1 => if c = true then R true H1 else tu σ H1 R) : tOr tt tu σ H R := h
theorem g_not (h : tt σ H fun c H1 => R (!c) H1) : tNot tt σ H R := h
theorem g_andV (h : ta σ H fun x H1 => isB x fun c => if c = true then tb σ H1 Q else Q (.bl false) H1) : tAndV ta tb σ H Q := h
theorem g_orV (h : ta σ H fun x H1 => isB x fun c => if c = true then Q (.bl true) H1 else tb σ H1 Q) : tOrV ta tb σ H Q := h
theorem g_notV (h : ta σ H fun x H1 => isB x fun c => Q (.bl (!c)) H1) : tNotV ta σ H Q := h
theorem g_if (h : tt σ H fun c H1 => if c = true then ta σ H1 Q else tb σ H1 Q) : tIf tt ta tb σ H Q := h
theorem g_chain {r r' : R2} (h : ta σ H fun x H1 => tb σ H1 fun y H2 => r x y H2 fun z H3 => isB z fun k => if k = true then tc σ H3 fun w' H4 => r' y w' H4 Q else Q (.bl false) H3) : tChain r r' ta tb tc σ H Q := h
theorem g_nil {S : List V → Hp → Prop} (h : S [] H) : tNil σ H S := h
theorem g_cons {tr : TA} {S : List V → Hp → Prop} (h : ta σ H fun x H1 => tr σ H1 fun xs H2 => S (x :: xs) H2) : tCons ta tr σ H S := h
theorem g_cb {r : List V → Hp → VK → Prop} {tr : TA} (h : tr σ H fun vs H1 => r vs H1 Q) : tCB r tr σ H Q := h
theorem g_I0 {g : Int → Int → V} (h : Q (g i j) H) : rI0 g (.int i) (.int j) H Q := ⟨i, j, rfl, rfl, h⟩
theorem g_I {C : Int → Int → Prop} {g : Int → Int → V} (hc : C i j) (h : Q (g i j) H) : rI C g (.int i) (.int j) H Q := ⟨i, j, rfl, rfl, hc, h⟩
theorem g_U {g : Int → V} (h : Q (g i) H) : rU g (.int i) H Q := ⟨i, rfl, h⟩
theorem b_d {p A B : Prop} [Decidable p] (h1 : p → A) (h2 : ¬ p → B) : if decide p = true then A else B := by
  by_cases h : p
  · rw [if_pos (decide_eq_true h)]
    exact h1 h
  · rw [if_neg (by rw [decide_eq_false h]; exact Bool.false_ne_true)]
    exact h2 h
theorem b_n {p A B : Prop} [Decidable p] (h1 : ¬ p → A) (h2 : p → B) : if (!decide p) = true then A else B := by
  by_cases h : p
  · rw [if_neg (by rw [decide_eq_true h]; exact Bool.false_ne_true)]
    exact h2 h
  · rw [if_pos (by rw [decide_eq_false h]; rfl)]
    exact h1 h
theorem b_b {A B : Prop} {c : Bool} (h1 : c = true → A) (h2 : c = false → B) : if c = true then A else B := by
  cases c with
  | true => exact iteT (h1 rfl)
  | false => exact iteF (h2 rfl)
theorem b_nb {A B : Prop} {c : Bool} (h1 : c = false → A) (h2 : c = true → B) : if (!c) = true then A else B := by
  cases c with
  | true => exact iteF (h2 rfl)
  | false => exact iteT (h1 rfl)
theorem b_t {A B : Prop} {c : Bool} (h : c = true) (k : A) : if c = true then A else B := by rw [if_pos h]; exact k
theorem b_f {A B : Prop} {c : Bool} (h : c = false) (k : B) : if c = true then A else B := by rw [if_neg (by rw [h]; exact Bool.false_ne_true)]; exact k
end
/-! ### readings with names -/
section
variable {X : Cx}
def rInt : List V → Hp → VK → Prop := fun xs H Q => (∃ i, xs = [V.int i] ∧ Q (V.int i) H) ∨ ∃ k, xs = [V.bl k] ∧ Q (V.int (if k = true then 1 else 0)) H
theorem call_int : CallR X (.type "int") rInt := call_int1
def rAbs : List V → Hp → VK → Prop := fun xs H Q => ∃ i, xs = [.int i] ∧ Q (.int (if i < 0 then -i else i)) H
theorem call_absR : CallR X (.builtin "abs") rAbs := call_abs
theorem call_lenR : CallR X (.builtin "len") (rLen X.K) := call_len
def rMin : List V → Hp → VK → Prop := fun xs H Q => ∃ i j, xs = [.int i, .int j] ∧ Q (.int (if j < i then j else i)) H
theorem call_min (hc : X.calm = true) : CallR X (.builtin "min") rMin := call_min2 hc
def rMax : List V → Hp → VK → Prop := fun xs H Q => ∃ i j, xs = [.int i, .int j] ∧ Q (.int (if j > i then j else i)) H
theorem call_max (hc : X.calm = true) : CallR X (.builtin "max") rMax := call_max2 hc
def rAddStr : R2 := fun x y H Q => ∃ i j, x = .str i ∧ y = .str j ∧ i.length + j.length ≤ sizeLine ∧ Q (.str (i ++ j)) H
/-- + of ints, texts, lists, tuples -/
def rAddU (K : PySem.W.Frag) : R2 := fun x y H Q => rI0 (fun i j => V.int (i + j)) x y H Q ∨ rAddStr x y H Q ∨ rCat x y H Q ∨ rCatA K x y H Q
theorem op_addU : OpR X (binaryOp .Add) (rAddU X.K) := OpR.or op_add (OpR.or op_add_str (OpR.or op_cat op_catA))
def rLstOf (K : PySem.W.Frag) : List V → Hp → VK → Prop := fun xs H Q => ∃ p ys, xs = [.ref p] ∧ (SqL K H p ys ∨ SqT K H p ys) ∧ ∀ l, H l = none → Q (.ref l) (upd H l (.lst ys))
theorem call_lstOf : CallR X (.type "list") (rLstOf X.K) := call_list_of
def rTupOf (K : PySem.W.Frag) : List V → Hp → VK → Prop := fun xs H Q => ∃ p ys, xs = [.ref p] ∧ ((SqL K H p ys ∧ ∀ l, H l = none → Q (.ref l) (upd H l (.tup ys))) ∨ (SqT K H p ys ∧ Q (.ref p) H))
theorem call_tupOf : CallR X (.type "tuple") (rTupOf X.K) := call_tuple_of
def rNotSign : R2 := fun x y H Q => ∃ (c : Nat) (z : Str), x = .str ⟨#[c]⟩ ∧ y = .str z ∧ Q (.bl (!decide (c ∈ z.cps.toList))) H
theorem op_notSign : OpR X (compareOp .NotIn) rNotSign := op_notIn_sign
def rSign : R2 := fun x y H Q => ∃ (c : Nat) (z : Str), x = .str ⟨#[c]⟩ ∧ y = .str z ∧ Q (.bl (decide (c ∈ z.cps.toList))) H
theorem op_sign : OpR X (compareOp .In) rSign := op_in_sign
theorem op_lt' : OpR X (compareOp .Lt) (rI0 fun i j => .bl (decide (i < j))) := op_lt
end
section
variable {K : PySem.W.Frag} {σ : L2.St} {H G : Hp} {M : MM} {Q : VK} {i j : Int} {v : V} {b : Bool} {x y : Str} {xs ys : List V} {p q : Addr}
theorem g_int (h : Q (.int i) H) : rInt [.int i] H Q := Or.inl ⟨i, rfl, h⟩
theorem g_intB (h : Q (.int (if b = true then 1 else 0)) H) : rInt [.bl b] H Q := Or.inr ⟨b, rfl, h⟩
theorem g_abs (h : Q (.int (if i < 0 then -i else i)) H) : rAbs [.int i] H Q := ⟨i, rfl, h⟩
theorem g_min (h : Q (.int (if j < i then j else i)) H) : rMin [.int i, .int j] H Q := ⟨i, j, rfl, h⟩
theorem g_max (h : Q (.int (if j > i then j else i)) H) : rMax [.int i, .int j] H Q := ⟨i, j, rfl, h⟩
theorem g_lenL (hs : SqL K H p xs) (h : Q (.int xs.length) H) : rLen K [.ref p] H Q := ⟨_, _, rfl, Or.inl ⟨xs, hs, rfl⟩, h⟩
theorem g_lenT (hs : SqT K H p xs) (h : Q (.int xs.length) H) : rLen K [.ref p] H Q := ⟨_, _, rfl, Or.inr ⟨xs, hs, rfl⟩, h⟩
theorem g_lenS (hs : x.length ≤ sizeLine) (h : Q (.int x.length) H) : rLen K [.str x] H Q := ⟨_, _, rfl, ⟨hs, rfl⟩, h⟩
theorem g_addI (h : Q (.int (i + j)) H) : rAddU K (.int i) (.int j) H Q := Or.inl ⟨i, j, rfl, rfl, h⟩
theorem g_addS (hl : x.length + y.length ≤ sizeLine) (h : Q (.str (x ++ y)) H) : rAddU K (.str x) (.str y) H Q := Or.inr (Or.inl ⟨x, y, rfl, rfl, hl, h⟩)
theorem g_addL (h1 : H p = some (.lst xs)) (h2 : H q = some (.lst ys)) (hl : xs.length + ys.length ≤ sizeLine) (h : ∀ p, H p = none → Q (.ref p) (upd H p (.lst (xs ++ ys)))) : rAddU K (.ref p) (.ref q) H Q :=
  Or.inr (Or.inr (Or.inl ⟨p, q, xs, ys, rfl, rfl, h1, h2, hl, h⟩))
theorem g_ixL (hs : SqL K H p xs) (ha : atI xs i = some v) (h : Q v H) : rIx K (.ref p) (.int i) H Q := Or.inl ⟨p, xs, i, v, rfl, rfl, hs, ha, h⟩
theorem g_ixT (hs : SqT K H p xs) (ha : atI xs i = some v) (h : Q v H) : rIx K (.ref p) (.int i) H Q := Or.inr (Or.inl ⟨p, xs, i, v, rfl, rfl, hs, ha, h⟩)
theorem g_ixS {c : Nat} (hs : x.length ≤ sizeLine) (ha : atI x.cps.toList i = some c) (h : Q (.str ⟨#[c]⟩) H) : rIx K (.str x) (.int i) H Q := Or.inr (Or.inr ⟨x, i, c, rfl, rfl, hs, ha, h⟩)
theorem atI_of {α : Type} {xs : List α} {i : Int} {v : α} (h0 : 0 ≤ i) (h : xs[i.toNat]? = some v) : atI xs i = some v := by
  have l : i.toNat < xs.length := by
    obtain ⟨h1, _⟩ := List.getElem?_eq_some_iff.mp h
    exact h1
  unfold atI ixN
  rw [if_pos h0, if_pos (by omega)]
  exact h
end
end E

namespace E
open PySem L2 Evl
def rSubI : R2 := rI0 fun i j => .int (i - j)
def rMulI : R2 := rI CMul fun i j => .int (i * j)
def rModI : R2 := rI (fun _ j => 0 < j) fun i j => .int (i % j)
def rDivI : R2 := rI CDivW fun i j => .int (i / j)
def rPowI : R2 := rI CPow fun i j => .int (i ^ j.toNat)
def rLtI : R2 := rI0 fun i j => .bl (decide (i < j))
def rLeI : R2 := rI0 fun i j => .bl (decide (i ≤ j))
def rGtI : R2 := rI0 fun i j => .bl (decide (j < i))
def rGeI : R2 := rI0 fun i j => .bl (decide (j ≤ i))
def rNegI : V → Hp → VK → Prop := rU fun i => .int (-i)
def rIsNon : R2 := fun x y H Q => y = .non ∧ Q (.bl (decide (x = .non))) H
def rNotNon : R2 := fun x y H Q => y = .non ∧ Q (.bl (!decide (x = .non))) H
def rJoin (K : PySem.W.Frag) : V → List V → Hp → VK → Prop := fun x xs H Q => ∃ a p, ∃ ys : List Str, x = .str a ∧ xs = [.ref p] ∧ (SqL K H p (ys.map V.str) ∨ SqT K H p (ys.map V.str)) ∧ (ys.map (·.length)).sum + ys.length * a.length ≤ 16777216 ∧ Q (.str (Txt.join a ys)) H
def tTru (K : PySem.W.Frag) (ta : TE) : TT := fun σ H Q => ta σ H fun x H' => ∃ k, TruV K x H' k ∧ Q k H'
def rEqU (K : PySem.W.Frag) : R2 := fun x y H Q => rEq x y H Q ∨ rEqD K x y H Q
def rNeU (K : PySem.W.Frag) : R2 := fun x y H Q => rNe x y H Q ∨ rNeD K x y H Q
section
variable {X : Cx} {o e : Expr} {to te : TE}
theorem op_eqU (hu : X.A.units + 64 < cLine) : OpR X (compareOp .Eq) (rEqU X.K) := OpR.or op_eq (op_eqD hu)
theorem op_neU (hu : X.A.units + 64 < cLine) : OpR X (compareOp .NotEq) (rNeU X.K) := OpR.or op_ne (op_neD hu)
theorem pe_joinR {apos pos : Pos} (ho : PE X o to) (he : PE X e te) (hs : starEach [e] X.env = [(false, eval e X.env)] := by rfl) (hbase : attributeBase o "join" X.env (eval o X.env) = eval o X.env := by rfl) (hline : (apos.endLine == pos.line) = true := by rfl) :
    PE X (.Call (.Attribute o "join" apos) [e] [] pos) (tM1 (rJoin X.K) to te) := pe_join ho he hs hbase hline
theorem pe_gc {x : Str} {v : V} {pos : Pos} (hg : Gl X x) (h : ∃ u, X.mg x = some u ∧ RelV v u) (hd : (x == ("__debug__" : Str)) = false := by decide) : PE X (.Name x pos) (tC v) := by
  obtain ⟨u, a, b⟩ := h
  exact pe_glob hg a b hd
end
structure Cal (P : Program) (w : World) (K : PySem.W.Frag) (mg : Str → Option Value) (base : Heap) (k : Nat) (x : Str) (sp : Sp) (dvs : List V) : Prop where
  ex : ∃ (f : Addr) (fd : FuncData) (ps : List Str) (ds : List Value), FnOk P w K mg base CX0 k f fd ps sp ∧ mg x = some (.ref f) ∧ PySem.W.keepIn K (.ref f) = true ∧ Binds K fd ps ds ∧ Vals dvs ds
section
variable {X : Cx} {k j : Nat} {C : Addr} {x m : Str} {sp : Sp} {dvs : List V} {p pos apos : Pos} {e o : Expr} {es : List Expr} {ta : TE} {t : TA}
theorem pe_c (c : Cal X.prog X.w X.K X.mg X.base k x sp dvs) (hr : Room j X.A) (hk : k ≤ j) (hg : Gl X x) (ha : PA X (e :: es) t)
    (hdb : (x == ("__debug__" : Str)) = false := by decide) (he : starEach (e :: es) X.env = (false, eval e X.env) :: starEach es X.env := by rfl) (hpl : (backTo pos (starEach es X.env)).any (·.1) = false := by rfl) :
    PE X (.Call (.Name x p) (e :: es) [] pos) (tCall sp dvs E0 t) := by
  obtain ⟨f, fd, ps, ds, F, hm, kp, b, d⟩ := c.ex
  exact pe_call F (hr.mono hk) hg hm kp b d pass0 ha hdb he hpl
theorem pe_c0 (c : Cal X.prog X.w X.K X.mg X.base k x sp dvs) (hr : Room j X.A) (hk : k ≤ j) (hg : Gl X x) (hdb : (x == ("__debug__" : Str)) = false := by decide) :
    PE X (.Call (.Name x p) [] [] pos) (tCall sp dvs E0 tNil) := by
  obtain ⟨f, fd, ps, ds, F, hm, kp, b, d⟩ := c.ex
  exact pe_call0 F (hr.mono hk) hg hm kp b d pass0 hdb
end
section
variable {K : PySem.W.Frag} {σ : L2.St} {H G : Hp} {M : MM} {Q : VK} {i j : Int} {v : V} {b : Bool} {x y : Str} {xs ys : List V} {p q : Addr} {ta tb te : TE} {R : Bool → Hp → Prop} {D : Ends}
theorem g_subI (h : Q (.int (i - j)) H) : rSubI (.int i) (.int j) H Q := ⟨i, j, rfl, rfl, h⟩
theorem g_mulI (hc : CMul i j) (h : Q (.int (i * j)) H) : rMulI (.int i) (.int j) H Q := ⟨i, j, rfl, rfl, hc, h⟩
theorem g_mulL (hc : -(2 ^ 64) < i ∧ i < 2 ^ 64) (h : Q (.int (i * j)) H) : rMulI (.int i) (.int j) H Q := ⟨i, j, rfl, rfl, Or.inl hc, h⟩
theorem g_mulR (hc : -(2 ^ 64) < j ∧ j < 2 ^ 64) (h : Q (.int (i * j)) H) : rMulI (.int i) (.int j) H Q := ⟨i, j, rfl, rfl, Or.inr hc, h⟩
theorem g_modI (hc : 0 < j) (h : Q (.int (i % j)) H) : rModI (.int i) (.int j) H Q := ⟨i, j, rfl, rfl, hc, h⟩
theorem g_divI (hc : CDivW i j) (h : Q (.int (i / j)) H) : rDivI (.int i) (.int j) H Q := ⟨i, j, rfl, rfl, hc, h⟩
theorem g_powI (hc : CPow i j) (h : Q (.int (i ^ j.toNat)) H) : rPowI (.int i) (.int j) H Q := ⟨i, j, rfl, rfl, hc, h⟩
theorem g_ltI (h : Q (.bl (decide (i < j))) H) : rLtI (.int i) (.int j) H Q := ⟨i, j, rfl, rfl, h⟩
theorem g_leI (h : Q (.bl (decide (i ≤ j))) H) : rLeI (.int i) (.int j) H Q := ⟨i, j, rfl, rfl, h⟩
theorem g_gtI (h : Q (.bl (decide (j < i))) H) : rGtI (.int i) (.int j) H Q := ⟨i, j, rfl, rfl, h⟩
theorem g_geI (h : Q (.bl (decide (j ≤ i))) H) : rGeI (.int i) (.int j) H Q := ⟨i, j, rfl, rfl, h⟩
theorem g_negI (h : Q (.int (-i)) H) : rNegI (.int i) H Q := ⟨i, rfl, h⟩
theorem g_isN (h : Q (.bl (decide (v = .non))) H) : rIsNon v .non H Q := ⟨rfl, h⟩
theorem g_notN (h : Q (.bl (!decide (v = .non))) H) : rNotNon v .non H Q := ⟨rfl, h⟩
theorem g_call {sp : Sp} {dvs : List V} {E : XK} {t : TA} (h : t σ H fun vs H1 => sp (vs ++ dvs) H1 Q E) : tCall sp dvs E t σ H Q := h
/-- a new tuple, a new list -/
def mkT (Q : VK) (xs : List V) (H : Hp) : Prop := xs.length ≤ sizeLine ∧ ∀ p, H p = none → Q (.ref p) (upd H p (.tup xs))
def mkL (Q : VK) (xs : List V) (H : Hp) : Prop := xs.length ≤ sizeLine ∧ ∀ p, H p = none → Q (.ref p) (upd H p (.lst xs))
theorem g_tup {t : TA} (h : t σ H fun xs H1 => mkT Q xs H1) : tTup t σ H Q := h
theorem g_lst {t : TA} (h : t σ H fun xs H1 => mkL Q xs H1) : tLst t σ H Q := h
theorem al_T (w : Vw M G H) (hl : xs.length ≤ 100000) (k : ∀ (p : Addr) (G' H' : Hp), Ex G G' → G p = none → G' p = some (.tup xs) → Vw M G' H' → Q (.ref p) H') : mkT Q xs H := ⟨sz_of hl, new_im w k⟩
theorem al_L (w : Vw M G H) (hl : xs.length ≤ 100000) (k : ∀ (p : Addr) (G' H' : Hp), Ex G G' → G p = none → G' p = some (.lst xs) → Vw M G' H' → Q (.ref p) H') : mkL Q xs H := ⟨sz_of hl, new_im w k⟩
theorem al_Lm (w : Vw M G H) (hl : xs.length ≤ 100000) (k : ∀ (p : Addr) (H' : Hp), G p = none → Vw ((p, (· = .lst xs)) :: M) G H' → Q (.ref p) H') : mkL Q xs H := ⟨sz_of hl, new_mu w k⟩
theorem g_addLw (w : Vw M G H) (h1 : G p = some (.lst xs)) (h2 : G q = some (.lst ys)) (hl : xs.length + ys.length ≤ 100000) (k : ∀ (p : Addr) (G' H' : Hp), Ex G G' → G p = none → G' p = some (.lst (xs ++ ys)) → Vw M G' H' → Q (.ref p) H') : rAddU K (.ref p) (.ref q) H Q :=
  g_addL (w.ex _ _ h1) (w.ex _ _ h2) (sz_of hl) (new_im w k)
theorem g_lstOfL (w : Vw M G H) (h1 : SqL K G p xs) (k : ∀ (p : Addr) (G' H' : Hp), Ex G G' → G p = none → G' p = some (.lst xs) → Vw M G' H' → Q (.ref p) H') : rLstOf K [.ref p] H Q := ⟨p, xs, rfl, Or.inl (ex_l w.ex h1), new_im w k⟩
theorem g_lstOfLm (w : Vw M G H) (h1 : SqL K G p xs) (k : ∀ (p : Addr) (H' : Hp), G p = none → Vw ((p, (· = .lst xs)) :: M) G H' → Q (.ref p) H') : rLstOf K [.ref p] H Q := ⟨p, xs, rfl, Or.inl (ex_l w.ex h1), new_mu w k⟩
theorem g_tupOfL (w : Vw M G H) (h1 : SqL K G p xs) (k : ∀ (p : Addr) (G' H' : Hp), Ex G G' → G p = none → G' p = some (.tup xs) → Vw M G' H' → Q (.ref p) H') : rTupOf K [.ref p] H Q := ⟨p, xs, rfl, Or.inl ⟨ex_l w.ex h1, new_im w k⟩⟩
theorem g_tupOfT (h1 : SqT K H p xs) (k : Q (.ref p) H) : rTupOf K [.ref p] H Q := ⟨p, xs, rfl, Or.inr ⟨h1, k⟩⟩
theorem g_slL {lo hi : Option Int} (w : Vw M G H) (h1 : SqL K G p xs) (k : ∀ (p : Addr) (G' H' : Hp), Ex G G' → G p = none → G' p = some (.lst (cutV xs lo hi)) → Vw M G' H' → Q (.ref p) H') : rSlL K (.ref p) lo hi H Q := ⟨p, xs, rfl, ex_l w.ex h1, new_im w k⟩
theorem g_sub {to ti : TE} {t : TSet} {S : L2.St → Hp → Prop} (h : to σ H fun o H1 => ti σ H1 fun i H2 => t o i v H2 fun H3 => S σ H3) : gSub to ti t v σ H S := h
theorem g_setL {k : Int} {n : Nat} {S : Hp → Prop} (h1 : H p = some (.lst xs)) (h2 : ixN xs.length k = some n) (h : S (upd H p (.lst (xs.set n v)))) : rSetL (.ref p) (.int k) v H S := ⟨p, xs, k, n, rfl, rfl, h1, h2, h⟩
theorem g_par {i j : Nat} {ta : TA} (h : ta σ H fun vs H1 => ∃ v w, vs = [v, w] ∧ D.nx ((σ.set i (some v)).set j (some w)) H1) : tPar i j ta D σ H := h
theorem g_m1 {r : V → List V → Hp → VK → Prop} (h : ta σ H fun x H1 => (∃ a, x = .str a) ∧ te σ H1 fun y H2 => r x [y] H2 Q) : tM1 r ta te σ H Q := h
theorem g_yes (h : R true H) : tYes σ H R := h
theorem g_tru (h : ta σ H fun x H' => ∃ k, TruV K x H' k ∧ R k H') : tTru K ta σ H R := h
theorem g_sl {r : V → Option Int → Option Int → Hp → VK → Prop} {tl th : TO} (h : te σ H fun x H1 => tl σ H1 fun l H2 => th σ H2 fun u H3 => r x l u H3 Q) : L2.tSl r te tl th σ H Q := h
theorem g_noPart {S : Option Int → Hp → Prop} (h : S none H) : tNoPart σ H S := h
end
end E
/-! walks over a list or a tuple -/
namespace E
open PySem PySem.Spec PyProof.Rows L2 Evl
def iSq (K : PySem.W.Frag) (tl : TE) : TI := fun σ H R => tl σ H fun x H1 => ∃ a, x = .ref a ∧ ((∃ xs, SqL K H1 a xs) ∧ R (Itl K a) H1 ∨ (∃ xs, SqT K H1 a xs) ∧ R (Itt K a) H1)
section
variable {X : Cx} {tg : Expr}
theorem pi_sq {l : Expr} {tl : TE} (hl : PE X l tl) : PI X tg l (iSq X.K tl) := by
  refine ⟨fun pins s σ H R I h => ?_⟩
  refine thn (hl.run pins s σ H _ I h) fun v s1 ⟨x, H1, I1, r1, q1⟩ => ?_
  obtain ⟨a, e, q1⟩ := q1
  subst e
  cases r1
  rcases q1 with ⟨⟨xs, hq⟩, q⟩ | ⟨⟨xs, hq⟩, q⟩
  · obtain ⟨its, rv, p, hz⟩ := I1.list hq
    refine wpAny_pyIter_list p.isList ?_
    refine ⟨s1.heap.objs.size, [s1.heap.objs.size], _, _, H1, rfl, I1.kept (t' := s1.toks) fun b o e => Heap.get?_push_of_some _ e, turn_list a _, ⟨_, Heap.get?_push_size _ rfl, rfl, rfl⟩, fun b hb => ?_, q⟩
    have e : b = s1.heap.objs.size := by simpa using hb
    subst e
    exact I1.fpOk (Nat.le_refl _) (I1.hok.fresh (Nat.le_refl _))
  · obtain ⟨its, rv, p, hz⟩ := I1.tuple hq
    refine wpAny_pyIter_tuple (show s1.heap.IsTuple a its.toArray from p) ?_
    refine ⟨s1.heap.objs.size, [s1.heap.objs.size], _, _, H1, rfl, I1.kept (t' := s1.toks) fun b o e => Heap.get?_push_of_some _ e, turn_tuple a _, ⟨_, Heap.get?_push_size _ rfl, rfl, rfl⟩, fun b hb => ?_, q⟩
    have e : b = s1.heap.objs.size := by simpa using hb
    subst e
    exact I1.fpOk (Nat.le_refl _) (I1.hok.fresh (Nat.le_refl _))
end
/-- what stands at a, list or tuple -/
def Sq (K : PySem.W.Frag) (H : Hp) (a : Addr) (xs : List V) : Prop := SqL K H a xs ∨ SqT K H a xs
theorem Sq.ex {K : PySem.W.Frag} {G H : Hp} {a : Addr} {xs : List V} (e : Ex G H) (h : Sq K G a xs) : Sq K H a xs := h.elim (fun h => Or.inl (ex_l e h)) fun h => Or.inr (ex_t e h)
theorem for_sq {K : PySem.W.Frag} {a : Addr} {xs : List V} {g : TG} {tb : TS} {D : Ends} {σ : L2.St} {G H : Hp} (Pv : Nat → L2.St → Hp → Prop) (h0 : Pv 0 σ H) (hq : Sq K G a xs) (hl : ∀ i σ H, Pv i σ H → Ex G H)
    (hs : ∀ i x σ H, xs[i]? = some x → Pv i σ H → g x σ H fun σ2 H2 => tb { D with nx := Pv (i + 1), ct := Pv (i + 1), bk := D.nx } σ2 H2) (hd : ∀ σ H, Pv xs.length σ H → D.nx σ H) :
    ((∃ xs, SqL K H a xs) ∧ (∃ W : Nat → Nat → L2.St → Hp → Prop, (∃ m, W 0 m σ H) ∧ ∀ i m σ H, W i m σ H →
      ((Itl K a).stop i H ∧ D.nx σ H) ∨ ((Itl K a).go i H ∧ ∃ N : L2.St → Hp → Prop, (∀ σ' H', N σ' H' → ∃ m', m' < m ∧ W (i + 1) m' σ' H') ∧ ∀ x H', (Itl K a).yld i H x H' → g x σ H' fun σ2 H2 => tb { D with nx := N, ct := N, bk := D.nx } σ2 H2)) ∨
    (∃ xs, SqT K H a xs) ∧ (∃ W : Nat → Nat → L2.St → Hp → Prop, (∃ m, W 0 m σ H) ∧ ∀ i m σ H, W i m σ H →
      ((Itt K a).stop i H ∧ D.nx σ H) ∨ ((Itt K a).go i H ∧ ∃ N : L2.St → Hp → Prop, (∀ σ' H', N σ' H' → ∃ m', m' < m ∧ W (i + 1) m' σ' H') ∧ ∀ x H', (Itt K a).yld i H x H' → g x σ H' fun σ2 H2 => tb { D with nx := N, ct := N, bk := D.nx } σ2 H2))) := by
  rcases hq with hq | hq
  · exact Or.inl ⟨⟨xs, ex_l (hl _ _ _ h0) hq⟩, for_list Pv h0 (fun i σ H _ p => ex_l (hl i σ H p) hq) hs hd⟩
  · exact Or.inr ⟨⟨xs, ex_t (hl _ _ _ h0) hq⟩, for_tup Pv h0 (fun i σ H _ p => ex_t (hl i σ H p) hq) hs hd⟩
end E

/-! Rules that HandS has not: calls with stars and keywords, defs with *args and keyword-only parameters, functions off a class, own ==, != and in -/
namespace PySem.W
open PySem PySem.Calls PyProof.Rows
section
variable {M : Model} {A : Around} {E : Value → Shared → Prop} {s : Shared} {K : Frag} {env : Env} {pos p : Pos} {f : Value} {first : List Value} {Q : Value → Shared → Prop}
theorem eq_callStar {P : Heap → Prop} {args : List (Bool × Sem Value)} {kws : List (Option Str × Sem Value)} (hst : (args.any (·.1) || kws.any (·.1.isNone)) = true)
    (hk : ∀ h, P h → ∃ k, (k = Keeper.frame ∨ k = Keeper.machine ∨ k = Keeper.boundFrame) ∧ Looks M h (keeperOf f) k)
    (h : wpAny M A (evalArgs f true args kws) (fun a s₁ => P s₁.heap ∧ wpAny M A (call f (first ++ a.pos) a.kw) Q E s₁) E s) : wpAny M A (callWith pos f first args kws) Q E s := by
  unfold callWith
  refine wpAny_bind (wpAny_holding (wpAny_mono h (fun a s₁ h₁ => wpAny_bind (wpAny_standAt ?_)) fun _ _ x => x))
  obtain ⟨k, hk', L⟩ := hk _ h₁.1
  simp only [hst]
  refine wpAny_bind (L.here ?_)
  have tail : ∀ {t : Sem Value}, wpAny M A t Q E s₁ → wpAny M A (t >>= fun r => holding [r] point >>= fun _ => pure r) Q E s₁ :=
    fun ht => wpAny_bind (wpAny_mono ht (fun r s₂ hr => wpAny_bind (wpAny_holding (wpAny_point (wpAny_pure hr)))) fun _ _ x => x)
  have marked (mk : Value) : wpAny M A (callMarked mk f (first ++ a.pos) a.kw) Q E s₁ := by unfold callMarked; exact Calls.wpAny_keep h₁.2
  rcases hk' with rfl | rfl | rfl <;> dsimp only <;> first | exact tail (marked _) | exact tail (wpAny_operating h₁.2)
/-- a call with any arguments and keywords that have names -/
theorem callWith_A {e : Expr} {rest : List Expr} {kws : List Keyword} (hk : keepIn K f = true) (hall : (backToKw pos (keywordEach kws env)).all (·.1.isSome) = true)
    (h : wpAny M A (spliced (backTo pos (starEach (e :: rest) env))) (fun vs s₁ => wpAny M A (evalAll ((backToKw pos (keywordEach kws env)).map (·.2)))
      (fun ks s₂ => K.In s₂.heap ∧ wpAny M A (call f (first ++ vs) (((backToKw pos (keywordEach kws env)).filterMap (·.1)).zip ks)) Q E s₂) E s₁) E s)
    (he : starEach (e :: rest) env = (false, eval e env) :: starEach rest env := by rfl) :
    wpAny M A (callWith pos f first (backTo pos (starEach (e :: rest) env)) (backToKw pos (keywordEach kws env))) Q E s := by
  have g : wpAny M A (evalArgs f true (backTo pos (starEach (e :: rest) env)) (backToKw pos (keywordEach kws env))) (fun a s₁ => K.In s₁.heap ∧ wpAny M A (call f (first ++ a.pos) a.kw) Q E s₁) E s := evalArgs_kw2 hall h he
  cases q : ((backTo pos (starEach (e :: rest) env)).any (·.1) || (backToKw pos (keywordEach kws env)).any (·.1.isNone)) with
  | false => exact callWith_of q (keeps_K hk) g
  | true => exact eq_callStar q (keeps_K hk) g
/-- .. the only argument a star -/
theorem eq_lone {x : Sem Value} {kws : List (Option Str × Sem Value)} {Q : Args → Shared → Prop} (hall : kws.all (·.1.isSome) = true)
    (h : wpAny M A x (fun v s₁ => wpAny M A (evalAll (kws.map (·.2))) (fun ks s₂ => StarOf M A E v (fun vs s₃ => Q ⟨vs, (kws.filterMap (·.1)).zip ks⟩ s₃) s₂) E s₁) E s) :
    wpAny M A (evalArgs f true [(true, (do let v ← x; standAt pos; pure v))] kws) Q E s := by
  unfold evalArgs
  first
    | refine wpAny_bind (wpAny_bind (wpAny_mono h (fun v s₁ h₁ => wpAny_bind (wpAny_standAt (wpAny_pure ?_))) fun _ _ x => x))
    | refine wpAny_bind (wpAny_bind (wpAny_bind (wpAny_mono h (fun v s₁ h₁ => wpAny_bind (wpAny_standAt (wpAny_pure (wpAny_pure ?_)))) fun _ _ x => x)))
  refine wpAny_holding ?_
  dsimp only
  rw [if_pos hall]
  refine wpAny_bind (wpAny_mono h₁ (fun ks s₂ h₂ => ?_) fun _ _ x => x)
  unfold StarOf at h₂
  refine wpAny_bind (wpAny_bind (wpAny_mono h₂ (fun b s₃ h₃ => ?_) fun _ _ x => x))
  obtain ⟨rfl, h₃⟩ := h₃
  have z := wpAny_holding (vs := (((kws.filterMap (·.1)).zip ks).map (·.2))) (wpAny_mono h₃ (fun vs s₃ h₃ => (wpAny_pure h₃ : wpAny M A (pure (⟨vs, (kws.filterMap (·.1)).zip ks⟩ : Args)) Q E s₃)) fun _ _ x => x)
  try simp only [Bool.false_eq_true, if_false]
  first
    | exact z
    | exact wpAny_bind (wpAny_pure z)
theorem callWith_A1 {e : Expr} {kws : List Keyword} (hk : keepIn K f = true) (hall : (backToKw pos (keywordEach kws env)).all (·.1.isSome) = true)
    (h : wpAny M A (eval e env) (fun v s₁ => wpAny M A (evalAll ((backToKw pos (keywordEach kws env)).map (·.2))) (fun ks s₂ => StarOf M A E v (fun vs s₃ => K.In s₃.heap ∧ wpAny M A (call f (first ++ vs) (((backToKw pos (keywordEach kws env)).filterMap (·.1)).zip ks)) Q E s₃) s₂) E s₁) E s)
    (he : starEach [.Starred e p] env = [(true, eval e env)] := by rfl) :
    wpAny M A (callWith pos f first (backTo pos (starEach [.Starred e p] env)) (backToKw pos (keywordEach kws env))) Q E s := by
  rw [he]
  exact eq_callStar rfl (keeps_K hk) (eq_lone hall h)
end
end PySem.W

namespace E
open PySem PySem.Spec PyProof.Rows L2 StX
/-- a def at f that may be called with any positional values and the keywords kn -/
def FnK (P : Program) (w : World) (K : PySem.W.Frag) (mg : Str → Option Value) (base : Heap) (CX : CXT) (k : Nat) (f : Addr) (kn : List Str) (sp : List V → List V → Hp → VK → XK → Prop) : Prop :=
  ∀ (A : Around) (outer : List Env) (s : Shared) (H : Hp) (us : List Value) (vs : List V) (ws : List Value) (zs : List V) (Q : VK) (E : XK), Room k A → Env0 P w K mg base A outer s H → Vals vs us → Vals zs ws → zs.length = kn.length → sp vs zs H Q E →
    codeAny (model P w) A (.call (.ref f) ⟨us, kn.zip ws⟩) (CR CX outer P w H s Q E) s
section
variable {CX : CXT} {P : Program} {w : World} {K : PySem.W.Frag} {mg : Str → Option Value} {base : Heap} {k j : Nat} {f : Addr} {kn : List Str}
theorem FnK.mono {sp : List V → List V → Hp → VK → XK → Prop} (F : FnK P w K mg base CX j f kn sp) (h : j ≤ k) : FnK P w K mg base CX k f kn sp := fun A outer s H us vs ws zs Q E hr => F A outer s H us vs ws zs Q E (hr.mono h)
theorem FnK.imp {sp sp' : List V → List V → Hp → VK → XK → Prop} (F : FnK P w K mg base CX k f kn sp) (h : ∀ vs zs H Q E, sp' vs zs H Q E → sp vs zs H Q E) : FnK P w K mg base CX k f kn sp' := fun A outer s H us vs ws zs Q E hr e0 r rz l q => F A outer s H us vs ws zs Q E hr e0 r rz l (h _ _ _ _ _ q)
end
section
variable {CX : CXT} {P : Program} {w : World} {K : PySem.W.Frag} {mg : Str → Option Value} {base : Heap} {k : Nat} {f : Addr} {name qual : Str} {params : Arguments} {body : List Stmt} {scope : Scope} {dvs : List V} {kws : List (Str × V)} {fd : FuncData}
  {N ps kn ms : List Str} {sp : Sp} {pv : Str}
/-- def f(a, .., *v, k = .., ..): kn the keywords that are written; the keyword-only parameters that lack have their defaults mz; g puts written and lacking ones into the parameters' order -/
theorem fnk_star (F : FunD K name qual params body scope [] kws f fd) {mn : List (Str × V)} (hms : ∀ q ∈ mn, q ∈ kws) {g : {α : Type} → List α → List α → List α} (hg : ∀ {zs mz : List V} {ws mv : List Value}, Vals zs ws → Vals mz mv → Vals (g zs mz) (g ws mv))
    (hgl : ∀ {zs mz : List V}, zs.length = kn.length → mz.length = mn.length → (g zs mz).length = ms.length)
    (S : FnScope N (ps ++ (ms ++ [pv])) scope) (hCX : CXUp CX)
    (hb : ∀ (D : Addr) (kV doc pm : Value) (an : Option Addr) (cdv ct : Value) (us rest ws mv : List Value), us.length = ps.length → ws.length = kn.length → mv.length = mn.length → (mn ≠ [] → kV = .ref D) →
      ∃ c, bindArgs (PySem.W.fnOf name qual params body scope .none kV doc pm an cdv ct) ⟨us ++ rest, kn.zip ws⟩ = (newTuple rest >>= c) ∧ ∀ t, KwChain D ((mn.map (·.1)).zip mv) (c t) (ps.zip us ++ (ms.zip (g ws mv) ++ [(pv, t)])))
    (hbody : ∀ (cdv : Value) (A : Around) (outer : List Env) (s : Shared) (H : Hp) (vs : List V) (Q : VK) (E : XK), Room k (A.deeper (envOfC qual scope s.heap.objs.size f cdv)) → sp vs H Q E →
      ∃ t, PSs (cxOf CX P w K mg base N qual scope f cdv A outer s H E) body t ∧ t { nx := fun _ H' => Q .non H', rt := Q } (start N vs) H) :
    FnK P w K mg base CX (k + 1) f kn (fun vs zs H Q E => ∃ ws rest, vs = ws ++ rest ∧ ws.length = ps.length ∧ rest.length ≤ sizeLine ∧ ∀ p, H p = Option.none → sp (ws ++ (g zs (mn.map (·.2)) ++ [V.ref p])) (upd H p (.tup rest)) Q E) := by
  intro A outer s H us vs ks zs Q E hr e0 r rz lz hsp
  obtain ⟨ws, rest, ev, hl, hz, hq⟩ := hsp
  subst ev
  obtain ⟨oc, od, dV, kV, doc, pm, an, cdv, ct, osl, rfl, lk, hcd, hD, hK⟩ := F.ex
  rcases hD with ⟨_, rfl⟩ | ⟨e, _⟩
  case inr => exact absurd rfl e
  obtain ⟨u1, u2, eu, r1, r2⟩ := vals_split r
  subst eu
  have hn : H s.heap.objs.size = Option.none := e0.hok.fresh (Nat.le_refl _)
  have hl1 : u1.length = ps.length := by rw [← r1.length]; exact hl
  have hl2 : u2.length ≤ sizeLine := by rw [← r2.length]; exact hz
  obtain ⟨D, mv, hmv, rmv, hkD, hks⟩ : ∃ (D : Addr) (mv : List Value), mv.length = mn.length ∧ Vals (mn.map (·.2)) mv ∧ (mn ≠ [] → kV = .ref D) ∧ ∀ q ∈ (mn.map (·.1)).zip mv, PySem.W.nsIn K D q.1 = some (some q.2) := by
    by_cases hm : mn = []
    · subst hm
      exact ⟨0, [], rfl, .nil, fun z => absurd rfl z, fun q hq => by simp at hq⟩
    · rcases hK with e | ⟨D, e, hq⟩
      · subst e
        cases hmn : mn with
        | nil => exact absurd hmn hm
        | cons q l => exact absurd (hms q (by rw [hmn]; exact List.mem_cons_self)) (by simp)
      · obtain ⟨mv, a, b, c⟩ := kwd_vals (ms := mn) fun q hm => hq q (hms q hm)
        exact ⟨D, mv, a, b, fun _ => e, c⟩
  obtain ⟨c, e1, e2⟩ := hb D kV doc pm an cdv ct u1 u2 ks mv hl1 (by rw [← rz.length, lz]) hmv hkD
  refine run_bnd lk hcd S hr e0 (G := fun xs H2 => ∃ p, H p = Option.none ∧ xs = ws ++ (g zs (mn.map (·.2)) ++ [V.ref p]) ∧ H2 = upd H p (.tup rest)) (fun A' Ex Q' h => ?_) fun s2 H2 xs ⟨p, hp, ex, eH⟩ hr' => ?_
  · rw [e1]
    refine wpAny_bind (wpAny_newTuple ?_ hl2)
    have new : ObjOk P w (upd H s.heap.objs.size (.tup rest)) (s.heap.push ({ cls := .type "tuple", data := .seq u2.toArray } : Obj)) s.heap.objs.size (.tup rest) := ⟨hz, u2, r2, ⟨_, Heap.get?_push_size _ rfl, rfl, _, rfl⟩⟩
    have un := un_laid (fs := frs outer) (s := s) (o := ({ cls := .type "tuple", data := .seq u2.toArray } : Obj)) (u := .tup rest) hn
    have e0' := env0_laid e0 new
    have KX : K.In (s.heap.push ({ cls := .type "tuple", data := .seq u2.toArray } : Obj)) := e0'.mod.kin.keeps fun b o e => (e0'.bs b o e).1
    refine (KwChain.looks (M := model P w) KX hks (e2 (Value.ref s.heap.objs.size))).here ?_
    have z := h _ _ (ws ++ (g zs (mn.map (·.2)) ++ [V.ref s.heap.objs.size])) (u1 ++ (g ks mv ++ [Value.ref s.heap.objs.size])) e0' un rfl (fun e s' => hCX outer s H _ _ E e s' un (fun b o q => Heap.get?_push_of_some _ q) rfl) (r1.append ((hg rz rmv).append (.cons rfl .nil)))
      (by rw [List.length_append, List.length_append, hl, List.length_append, List.length_append, hgl lz (by simp), List.length_singleton, List.length_singleton]) ⟨_, hn, rfl, rfl⟩
    have lg : ms.length = (g ks mv).length := by rw [← (hg rz rmv).length, hgl lz (by simp)]
    rw [List.zip_append hl1.symm, List.zip_append lg] at z
    exact z
  · subst ex eH
    exact hbody cdv A outer s2 _ _ Q E hr' (hq p hp)
end
/-! ### making instances -/
def tMakeA (C : Addr) (m : Nat) (sp : List V → List V → Hp → VK → XK → Prop) (Er : XK) (t tk : TA) : TE := fun σ H Q => t σ H fun vs H1 => tk σ H1 fun zs H2 => zs.length = m ∧ ∀ x dx, H2 x = none → H2 dx = none → dx ≠ x →
  sp (.ref x :: vs) zs (upd (upd H2 dx (.own x)) x (.ins C dx [])) (fun v H3 => v = .non ∧ Q (.ref x) H3) Er
/-- C(*y, k = v): y is asked ahead of the keywords, walked behind them -/
def tMakeS (K : PySem.W.Frag) (C : Addr) (m : Nat) (sp : List V → List V → Hp → VK → XK → Prop) (Er : XK) (te : TE) (tk : TA) : TE := fun σ H Q => te σ H fun y H1 => tk σ H1 fun zs H2 => ∃ p vs, y = V.ref p ∧ (SqT K H2 p vs ∨ SqL K H2 p vs) ∧ zs.length = m ∧ ∀ x dx, H2 x = none → H2 dx = none → dx ≠ x →
  sp (.ref x :: vs) zs (upd (upd H2 dx (.own x)) x (.ins C dx [])) (fun v H3 => v = .non ∧ Q (.ref x) H3) Er
section
variable {X : Cx} {CX : CXT} {k : Nat} {f C : Addr} {kn : List Str} {sp : List V → List V → Hp → VK → XK → Prop} {Er : XK} {x : Str} {p q pos : Pos} {e : Expr} {es : List Expr} {kws : List Keyword} {te : TE} {t tk : TA}
theorem run_makeA {pins : List (Addr × Obj)} {σ : L2.St} {H : Hp} {s : Shared} {Q : VK} {us ws : List Value} {vs zs : List V} (M : Mk X.K C f) (F : FnK X.prog X.w X.K X.mg X.base CX k f kn sp) (hr : Room (k + 1) X.A) (hx : Passes CX X Er)
    (I : Inv X pins σ H s) (r : Vals vs us) (rz : Vals zs ws) (l2 : zs.length = kn.length)
    (h : ∀ x dx, H x = none → H dx = none → dx ≠ x → sp (.ref x :: vs) zs (upd (upd H dx (.own x)) x (.ins C dx [])) (fun v H2 => v = .non ∧ Q (.ref x) H2) Er) :
    wpAny (model X.prog X.w) X.A (call (.ref C) us (kn.zip ws)) (EP X pins σ Q) X.xe s := by
  have hq := h (s.heap.objs.size + 1) s.heap.objs.size (I.hok.fresh (Nat.le_succ _)) (I.hok.fresh (Nat.le_refl _)) (Nat.ne_of_lt (Nat.lt_succ_self _))
  have I2 := Inv.made (C := C) I
  have r1 : Vals (V.ref (s.heap.objs.size + 1) :: vs) (Value.ref (s.heap.objs.size + 1) :: us) := .cons rfl r
  refine wpAny_call (make_map (f := f) I.kIn M.makes M.init (beq_iff_eq.mp M.fn) (codeAny_mono (F _ X.stack _ _ (Value.ref (s.heap.objs.size + 1) :: us) _ ws zs _ Er (hr.make C us (kn.zip ws)) (I2.env0.make C us (kn.zip ws)) r1 rz l2 hq) fun r s' hq' => ?_))
  cases r with
  | error e => exact hx pins σ _ _ e s' I2 hq'
  | ok fl =>
    cases fl with
    | ret u =>
      obtain ⟨v, H', I3, rv, ev, q3⟩ := I2.after hq'
      subst ev
      exact ⟨rv, ⟨V.ref (s.heap.objs.size + 1), H', I3, rfl, q3⟩⟩
    | next => exact False.elim hq'
    | brk => exact False.elim hq'
    | cont => exact False.elim hq'
theorem pe_makeA (M : Mk X.K C f) (F : FnK X.prog X.w X.K X.mg X.base CX k f kn sp) (hr : Room (k + 1) X.A) (hg : Gl X x) (hm : X.mg x = some (.ref C)) (hx : Passes CX X Er) (ha : PA X (e :: es) t) (hkw : PK X kws tk)
    (hall : (backToKw pos (keywordEach kws X.env)).all (·.1.isSome) = true := by rfl) (hks : (backToKw pos (keywordEach kws X.env)).filterMap (·.1) = kn := by rfl) (hdb : (x == ("__debug__" : Str)) = false := by decide)
    (he : starEach (e :: es) X.env = (false, eval e X.env) :: starEach es X.env := by rfl) : PE X (.Call (.Name x p) (e :: es) kws pos) (tMakeA C kn.length sp Er t tk) := by
  refine ⟨fun pins s σ H Q I h => ?_⟩
  refine wpAny_Call_Name_kw (ld_glob I hg hm ?_ hdb)
  refine PySem.W.callWith_A (K := X.K) M.kp hall (thn (ha.run pos pins s σ H _ I h) fun us s1 ⟨vs, H1, I1, r, q⟩ => ?_) he
  refine thn (hkw.run pos pins s1 σ H1 _ I1 q) fun ws s2 ⟨zs, H2, I2, rz, l2, q2⟩ => ⟨I2.kIn, ?_⟩
  rw [hks]
  exact run_makeA M F hr hx I2 r rz l2 q2
theorem pe_makeS (M : Mk X.K C f) (F : FnK X.prog X.w X.K X.mg X.base CX k f kn sp) (hr : Room (k + 1) X.A) (hg : Gl X x) (hm : X.mg x = some (.ref C)) (hx : Passes CX X Er) (ha : PE X e te) (hkw : PK X kws tk)
    (hall : (backToKw pos (keywordEach kws X.env)).all (·.1.isSome) = true := by rfl) (hks : (backToKw pos (keywordEach kws X.env)).filterMap (·.1) = kn := by rfl) (hdb : (x == ("__debug__" : Str)) = false := by decide)
    (he : starEach [.Starred e q] X.env = [(true, eval e X.env)] := by rfl) : PE X (.Call (.Name x p) [.Starred e q] kws pos) (tMakeS X.K C kn.length sp Er te tk) := by
  refine ⟨fun pins s σ H Q I h => ?_⟩
  refine wpAny_Call_Name_kw (ld_glob I hg hm ?_ hdb)
  refine PySem.W.callWith_A1 (K := X.K) M.kp hall (thn (ha.run pins s σ H _ I h) fun v s1 ⟨y, H1, I1, ry, q⟩ => ?_) he
  refine thn (hkw.run pos pins s1 σ H1 _ I1 q) fun ws s2 ⟨zs, H2, I2, rz, p0, vs, ey, hx0, l2, q2⟩ => ?_
  subst ey
  obtain rfl : v = Value.ref p0 := ry
  refine star_any I2 hx0 fun us s3 I3 rv => ⟨I3.kIn, ?_⟩
  rw [hks]
  exact run_makeA M F hr hx I3 rv rz l2 q2
end
/-! ### a function off a class: C.f(..), by a staticmethod or plain -/
structure Stat (K : PySem.W.Frag) (C : Addr) (mc : Value) (m : Str) (g : Addr) : Prop where
  rd : PySem.W.readsIn K C mc = true
  ga : PySem.W.specialIn K (.ref C) "__getattribute__" = some (some (.builtin "type.__getattribute__"))
  at_ : (∃ p, PySem.W.findCls K (.ref C) mc m = some (.get (.builtin "staticmethod.__get__") (.ref p) .none (.ref C)) ∧ ∃ rest, PySem.W.recIn K p "staticmethod" = some (.ref g :: rest)) ∨ PySem.W.findCls K (.ref C) mc m = some (.val (.ref g))
  kp : PySem.W.keepIn K (.ref g) = true
def tStat (C : Addr) (m : Nat) (sp : List V → List V → Hp → VK → XK → Prop) (Er : XK) (ta : TE) (t tk : TA) : TE := fun σ H Q => ta σ H fun x H1 => x = .ref C ∧ t σ H1 fun vs H2 => tk σ H2 fun zs H3 => zs.length = m ∧ sp vs zs H3 Q Er
section
variable {X : Cx} {CX : CXT} {k : Nat} {C g : Addr} {mc : Value} {kn : List Str} {sp : List V → List V → Hp → VK → XK → Prop} {Er : XK} {m : Str} {p q pos apos : Pos} {e o : Expr} {es : List Expr} {kws : List Keyword} {ta : TE} {t tk : TA} {pl : Sem Bool}
theorem getmeth_stat {pins : List (Addr × Obj)} {σ : L2.St} {H : Hp} {s : Shared} {A : Around} {Er : Value → Shared → Prop} {Q : Value × List Value → Shared → Prop} (I : Inv X pins σ H s) (c : Stat X.K C mc m g)
    (h : ∀ s', Inv X pins σ H s' → Q (.ref g, []) s') : wpAny (model X.prog X.w) A (getMethod (.ref C) m pl) Q Er s := by
  refine PySem.W.method_cls I.kIn c.ga ?_
  rcases c.at_ with ⟨p, a, rest, hp⟩ | a
  · refine PySem.W.cls_bind I.kIn c.rd a ?_
    refine wpAny_call (PySem.W.sm_get (s := { s with toks := s.toks + 1 }) I.kIn hp (PySem.W.handed_on rfl ?_))
    exact h _ (I.tok _)
  · exact PySem.W.cls_value I.kIn c.rd a rfl (h _ (I.tok _))
theorem run_fnK {pins : List (Addr × Obj)} {σ : L2.St} {H : Hp} {s : Shared} {Q : VK} {us ws : List Value} {vs zs : List V} (F : FnK X.prog X.w X.K X.mg X.base CX k g kn sp) (hr : Room k X.A) (hx : Passes CX X Er) (I : Inv X pins σ H s) (r : Vals vs us) (rz : Vals zs ws) (l : zs.length = kn.length) (h : sp vs zs H Q Er) :
    wpAny (model X.prog X.w) X.A (call (.ref g) us (kn.zip ws)) (EP X pins σ Q) X.xe s := by
  refine wpAny_call (codeAny_mono (F X.A X.stack s H us vs ws zs Q Er hr I.env0 r rz l h) fun r s' hq => ?_)
  cases r with
  | error e => exact hx pins σ H s e s' I hq
  | ok fl =>
    cases fl with
    | ret u => exact I.after hq
    | next => exact False.elim hq
    | brk => exact False.elim hq
    | cont => exact False.elim hq
theorem pe_stat (he : PE X o ta) (c : Stat X.K C mc m g) (F : FnK X.prog X.w X.K X.mg X.base CX k g kn sp) (hr : Room k X.A) (hx : Passes CX X Er) (ha : PA X (e :: es) t) (hkw : PK X kws tk)
    (hall : (backToKw pos (keywordEach kws X.env)).all (·.1.isSome) = true := by rfl) (hks : (backToKw pos (keywordEach kws X.env)).filterMap (·.1) = kn := by rfl)
    (hst : starEach (e :: es) X.env = (false, eval e X.env) :: starEach es X.env := by rfl)
    (ht : eval (.Call (.Attribute o m apos) (e :: es) kws pos) X.env = (do
      let ov ← eval o X.env
      standAt apos.atName
      let (f, first) ← holding [ov] (getMethod ov m pl)
      callWith pos f first (backTo pos (starEach (e :: es) X.env)) (backToKw pos (keywordEach kws X.env))) := by rfl) :
    PE X (.Call (.Attribute o m apos) (e :: es) kws pos) (tStat C kn.length sp Er ta t tk) := by
  refine ⟨fun pins s σ H Q I h => ?_⟩
  refine PySem.W.methodCall_KW (pl := pl) (thn (he.run pins s σ H _ I h) fun u s1 ⟨x, H1, I1, rx, ex, q⟩ => ?_) ht
  subst ex
  obtain rfl : u = Value.ref C := rx
  refine getmeth_stat I1 c fun s2 I2 => ?_
  refine PySem.W.callWith_A (K := X.K) c.kp hall (thn (ha.run pos pins s2 σ H1 _ I2 q) fun us s3 ⟨vs, H2, I3, r, q2⟩ => ?_) hst
  refine thn (hkw.run pos pins s3 σ H2 _ I3 q2) fun ws s4 ⟨zs, H3, I4, rz, l, q3⟩ => ⟨I4.kIn, ?_⟩
  rw [hks]
  exact run_fnK F hr hx I4 r rz l q3
end
/-- a def without keywords in the call, by its bindings -/
theorem fnk_of {P : Program} {w : World} {K : PySem.W.Frag} {mg : Str → Option Value} {base : Heap} {CX : CXT} {k : Nat} {f : Addr} {fd : FuncData} {ps : List Str} {ds : List Value} {dvs : List V} {sp : Sp} (F : FnOk P w K mg base CX k f fd ps sp) (b : Binds K fd ps ds) (d : Vals dvs ds) :
    FnK P w K mg base CX k f [] (fun vs zs H Q Er => zs = [] ∧ sp (vs ++ dvs) H Q Er) := by
  intro A outer s H us vs ws zs Q Er hr e0 r rz l ⟨_, h⟩
  have e : ([] : List Str).zip ws = [] := rfl
  have KX : K.In s.heap := e0.mod.kin.keeps fun b o e => (e0.bs b o e).1
  have r2 := r.append d
  refine F.run A outer s H ⟨us, []⟩ (us ++ ds) (vs ++ dvs) Q Er hr e0 (b s us KX ?_) r2 h
  rw [← r2.length]
  exact F.len _ _ _ _ h
end E

/-! == and != by an own __eq__, either side first -/
namespace PySem.W
open PySem PySem.Calls PyProof.Rows Builtin
section
variable {prog : Program} {w : World} {A : Around} {E : Value → Shared → Prop} {s : Shared} {K : Frag} {x C f : Addr} {ox : Obj} {od : Option Obj} {b tb : Value}
theorem ifBound_objNe {M : Model} {args : List Value} {Q : Option Value → Shared → Prop} (X : K.In s.heap) (I : InstAt s.heap x ox C od) (hs : findIn K (.ref C) "__ne__" = some (some (.builtin "object.__ne__")))
    (h : wpAny M A (call (.builtin "object.__ne__") (.ref x :: args)) (fun v => Q (some v)) E s) : wpAny M A (callSpecialIfBound? (.ref x) "__ne__" args) Q E s := by
  simp only [callSpecialIfBound?, bindSpecialIfBound?]
  refine wpAny_holding (wpAny_bind (wpAny_bind (wpAny_bind (I.type.here ((looks_findIn X hs).here ?_)))))
  refine wpAny_bind (wpAny_askSetting (wpAny_ite ?_))
  have fin : wpAny M A (call (.builtin "object.__ne__") ([.ref x] ++ args) >>= fun v => pure (some v)) Q E s := wpAny_bind (wpAny_mono h (fun v s' h' => wpAny_pure h') fun _ _ h' => h')
  split
  · exact wpAny_bind (wpAny_of_eq (F.cmp_object.ne.bind _) (wpAny_pure (by exact fin)))
  · exact wpAny_tryCatch (wpAny_bind (wpAny_of_eq (F.cmp_object.ne.bind _) (wpAny_pure (by exact fin))))
/-- the default != by an own == that answers with a truth -/
theorem try_ne {Q : Option Value → Shared → Prop} (hu : A.in1.units < cLine) (X : K.In s.heap) (I : InstAt s.heap x ox C od) (hs : findIn K (.ref C) "__eq__" = some (some (.ref f))) (hf : isFn K (.ref f) = true)
    (hn : findIn K (.ref C) "__ne__" = some (some (.builtin "object.__ne__"))) (hm : mroIn K C (.type "object") = some true)
    (h : wpAny (model prog w) A.in1 (call (.ref f) [.ref x, b]) (fun v s' => ∃ r, v = .bool r ∧ Q (some (.bool (!r))) s') E s) : wpAny (model prog w) A (tryCompare (.ref x) "__ne__" b) Q E s := by
  unfold tryCompare
  refine wpAny_bind (ifBound_objNe X I hn ?_)
  refine wpAny_call (codeAny_call_builtin F.cmp_object.ne.plain F.cmpEntry_ne (check_slot F.cmpKind_ne F.cmpSplit_ne (I.type.andThen (looks_mroIn X hm)) (F.cmpArgs_ne _ _) ?_))
  unfold Builtin.«object.__ne__»
  refine wpAny_bind (m := slotArgs "__ne__" 1 ⟨[.ref x, b], []⟩) (wpAny_pure ?_)
  refine wpAny_bind (wpAny_cRoomFor hu ?_)
  refine wpAny_bind (m := callSpecialIfBound? (.ref x) (Str.ofString "__eq__") [b]) (ifBound_K X I hs hf (wpAny_mono h (fun v s' hv => ?_) fun _ _ e => e))
  obtain ⟨r, rfl, q⟩ := hv
  refine wpAny_bind (m := truthy (.bool r)) (wpAny_truthy_bool ?_)
  exact wpAny_pure (wpAny_pure q)
theorem try_eq {Q : Option Value → Shared → Prop} (X : K.In s.heap) (I : InstAt s.heap x ox C od) (hs : findIn K (.ref C) "__eq__" = some (some (.ref f))) (hf : isFn K (.ref f) = true)
    (h : wpAny (model prog w) A (call (.ref f) [.ref x, b]) (fun v s' => ∃ r, v = .bool r ∧ Q (some (.bool r)) s') E s) : wpAny (model prog w) A (tryCompare (.ref x) "__eq__" b) Q E s := by
  unfold tryCompare
  refine wpAny_bind (ifBound_K X I hs hf (wpAny_mono h (fun v s' hv => ?_) fun _ _ e => e))
  obtain ⟨r, rfl, q⟩ := hv
  exact wpAny_pure q
/-- the left one is asked -/
theorem cmp_left {op : CmpOp} {Q : Value → Shared → Prop} (hu : A.units < cLine) (X : K.In s.heap) (I : InstAt s.heap x ox C od) (hb : Looks (model prog w) s.heap (typeOf b) tb) (hn : notFirst K C tb = true)
    (one : wpAny (model prog w) A (tryCompare (.ref x) (cmpInfo op).2.1 b) (fun r s' => ∃ v, r = some v ∧ Q v s') E s) : wpAny (model prog w) A (richCompare op (.ref x) b) Q E s := by
  unfold richCompare
  simp only [oneThing_ref]
  refine wpAny_holding (wpAny_bind (wpAny_cRoomFor hu ?_))
  refine wpAny_bind (I.type.here (wpAny_bind (hb.here ?_)))
  split
  · rename_i q
    have e : subIn K tb (.ref C) = some false := by
      rcases Bool.or_eq_true_iff.mp hn with e | e
      · rw [beq_iff_eq.mp e] at q; simp at q
      · exact beq_iff_eq.mp e
    refine wpAny_bind ((looks_subIn X e).here ?_)
    simp only [Bool.false_eq_true, if_false]
    refine wpAny_bind (wpAny_mono one (fun r s' z => ?_) fun _ _ e => e)
    obtain ⟨v, rfl, hq⟩ := z
    exact wpAny_pure hq
  · refine wpAny_bind (wpAny_pure ?_)
    simp only [Bool.false_eq_true, if_false]
    refine wpAny_bind (wpAny_mono one (fun r s' z => ?_) fun _ _ e => e)
    obtain ⟨v, rfl, hq⟩ := z
    exact wpAny_pure hq
/-- the right one's class is below the left one's: it is asked first -/
theorem cmp_right {op : CmpOp} {y D : Addr} {oy : Obj} {odd : Option Obj} {Q : Value → Shared → Prop} (hu : A.units < cLine) (X : K.In s.heap) (I : InstAt s.heap x ox C od) (J : InstAt s.heap y oy D odd) (hne : D ≠ C) (hn : subIn K (.ref D) (.ref C) = some true)
    (one : wpAny (model prog w) A (tryCompare (.ref y) (cmpInfo op).2.2 (.ref x)) (fun r s' => ∃ v, r = some v ∧ Q v s') E s) : wpAny (model prog w) A (richCompare op (.ref x) (.ref y)) Q E s := by
  unfold richCompare
  simp only [oneThing_ref]
  refine wpAny_holding (wpAny_bind (wpAny_cRoomFor hu ?_))
  refine wpAny_bind (I.type.here (wpAny_bind (J.type.here ?_)))
  rw [if_pos (show ((Value.ref C != Value.ref D) = true) from by simp only [bne_iff_ne, ne_eq]; exact fun z => hne (Value.ref.inj z).symm)]
  refine wpAny_bind ((looks_subIn X hn).here ?_)
  simp only [if_true]
  refine wpAny_bind (wpAny_mono one (fun r s' z => ?_) fun _ _ e => e)
  obtain ⟨v, rfl, hq⟩ := z
  exact wpAny_bind (wpAny_rule (wpAny_pure hq))
end
end PySem.W
namespace E
open PySem PySem.Spec PyProof.Rows L2 StX
/-- a class whose == is the def at g, whose != is the default -/
structure OwnEq (K : PySem.W.Frag) (C g : Addr) : Prop where
  eq : PySem.W.findIn K (.ref C) "__eq__" = some (some (.ref g))
  fn : PySem.W.isFn K (.ref g) = true
  ne : PySem.W.findIn K (.ref C) "__ne__" = some (some (.builtin "object.__ne__"))
  ob : PySem.W.mroIn K C (.type "object") = some true
/-- x == y | x != y by the def at g; neg: != -/
def rOwnEq (K : PySem.W.Frag) (neg : Bool) (g : Addr) (sp : Sp) (Er : XK) : R2 := fun x y H Q => ∃ a C dx fs, x = .ref a ∧ H a = some (.ins C dx fs) ∧ OwnEq K C g ∧
  ((∃ t, TyX K H y t ∧ PySem.W.notFirst K C t = true ∧ sp [x, y] H (fun v H' => ∃ b, v = .bl b ∧ Q (.bl (b != neg)) H') Er) ∨
   (∃ b D dy gs, y = .ref b ∧ H b = some (.ins D dy gs) ∧ OwnEq K D g ∧ D ≠ C ∧ PySem.W.subIn K (.ref D) (.ref C) = some true ∧ sp [y, x] H (fun v H' => ∃ b, v = .bl b ∧ Q (.bl (b != neg)) H') Er))
section
variable {X : Cx} {CX : CXT} {k : Nat} {g : Addr} {sp : Sp} {Er : XK}
theorem op_ownEq (F : FnR X.prog X.w X.K X.mg X.base CX k g sp) (hr : Room (k + 1) X.A) (hx : Passes CX X Er) : OpR X (compareOp .Eq) (rOwnEq X.K false g sp Er) := by
  intro pins s σ H x y u v Q I rx ry h
  obtain ⟨a, C, dx, fs, rfl, ha, O, h⟩ := h
  cases (show u = Value.ref a from rx)
  obtain ⟨mA, OM, _⟩ := ins_get I.hok ha
  obtain ⟨od, J, _⟩ := OM.look
  show wpAny _ _ (richCompare .Eq _ _) _ _ _
  rcases h with ⟨t, ty, hn, q⟩ | ⟨b, D, dy, gs, rfl, hb, O2, hne, hs, q⟩
  · obtain ⟨P, Z, p, _⟩ := kit_of I ry ty
    refine PySem.W.cmp_left hr.units0 I.kIn J (Z.ty _ _ I.kIn p) hn ?_
    refine PySem.W.try_eq I.kIn J O.eq O.fn (wpAny_mono (wpAny_call (SlX.run_at (A := X.A) (us := [.ref a, v]) (ws := [.ref a, y]) F (hr.mono (Nat.le_succ _)) I.env0 hx I (.cons rfl (.cons ry .nil)) q)) (fun w s' z => ?_) fun _ _ x => x)
    obtain ⟨z', H', I', rz, r, er, qz⟩ := z
    subst er
    obtain rfl : w = Value.bool r := rz
    refine ⟨r, rfl, _, rfl, .bl r, H', I', rfl, ?_⟩
    have e : (r != false) = r := by cases r <;> rfl
    rw [e] at qz
    exact qz
  · cases (show v = Value.ref b from ry)
    obtain ⟨mB, OM2, _⟩ := ins_get I.hok hb
    obtain ⟨od2, J2, _⟩ := OM2.look
    refine PySem.W.cmp_right hr.units0 I.kIn J J2 hne hs ?_
    refine PySem.W.try_eq I.kIn J2 O2.eq O2.fn (wpAny_mono (wpAny_call (SlX.run_at (A := X.A) (us := [.ref b, .ref a]) (ws := [.ref b, .ref a]) F (hr.mono (Nat.le_succ _)) I.env0 hx I (.cons rfl (.cons rfl .nil)) q)) (fun w s' z => ?_) fun _ _ x => x)
    obtain ⟨z', H', I', rz, r, er, qz⟩ := z
    subst er
    obtain rfl : w = Value.bool r := rz
    refine ⟨r, rfl, _, rfl, .bl r, H', I', rfl, ?_⟩
    have e : (r != false) = r := by cases r <;> rfl
    rw [e] at qz
    exact qz
theorem op_ownNe (F : FnR X.prog X.w X.K X.mg X.base CX k g sp) (hr : Room (k + 1) X.A) (hx : Passes CX X Er) : OpR X (compareOp .NotEq) (rOwnEq X.K true g sp Er) := by
  intro pins s σ H x y u v Q I rx ry h
  obtain ⟨a, C, dx, fs, rfl, ha, O, h⟩ := h
  cases (show u = Value.ref a from rx)
  obtain ⟨mA, OM, _⟩ := ins_get I.hok ha
  obtain ⟨od, J, _⟩ := OM.look
  have hr1 : Room k X.A.in1 := hr.in1
  show wpAny _ _ (richCompare .NotEq _ _) _ _ _
  rcases h with ⟨t, ty, hn, q⟩ | ⟨b, D, dy, gs, rfl, hb, O2, hne, hs, q⟩
  · obtain ⟨P, Z, p, _⟩ := kit_of I ry ty
    refine PySem.W.cmp_left (op := .NotEq) hr.units0 I.kIn J (Z.ty _ _ I.kIn p) hn ?_
    refine PySem.W.try_ne hr1.units0 I.kIn J O.eq O.fn O.ne O.ob (wpAny_mono (wpAny_call (SlX.run_at (A := X.A.in1) (us := [.ref a, v]) (ws := [.ref a, y]) F hr1 I.env0.in1 hx I (.cons rfl (.cons ry .nil)) q)) (fun w s' z => ?_) fun _ _ x => x)
    obtain ⟨z', H', I', rz, r, er, qz⟩ := z
    subst er
    obtain rfl : w = Value.bool r := rz
    refine ⟨r, rfl, _, rfl, .bl (!r), H', I', rfl, ?_⟩
    have e : (r != true) = !r := by cases r <;> rfl
    rw [e] at qz
    exact qz
  · cases (show v = Value.ref b from ry)
    obtain ⟨mB, OM2, _⟩ := ins_get I.hok hb
    obtain ⟨od2, J2, _⟩ := OM2.look
    refine PySem.W.cmp_right (op := .NotEq) hr.units0 I.kIn J J2 hne hs ?_
    refine PySem.W.try_ne hr1.units0 I.kIn J2 O2.eq O2.fn O2.ne O2.ob (wpAny_mono (wpAny_call (SlX.run_at (A := X.A.in1) (us := [.ref b, .ref a]) (ws := [.ref b, .ref a]) F hr1 I.env0.in1 hx I (.cons rfl (.cons rfl .nil)) q)) (fun w s' z => ?_) fun _ _ x => x)
    obtain ⟨z', H', I', rz, r, er, qz⟩ := z
    subst er
    obtain rfl : w = Value.bool r := rz
    refine ⟨r, rfl, _, rfl, .bl (!r), H', I', rfl, ?_⟩
    have e : (r != true) = !r := by cases r <;> rfl
    rw [e] at qz
    exact qz
end
end E


/-! facts of the head: defs at any place, one Bool -/
namespace E
open PySem PySem.Spec PyProof.Rows L2 He
structure Df where
  ad : PySem.W.Frag → Addr
  name : Str
  qual : Str
  st : Stmt
  dfl : List Dv := []
  kwd : List (Str × Dv) := []
def fnAt (K : PySem.W.Frag) (a : Addr) : FnW := match K.lookup a with
  | some ⟨_, _, .func fd, _⟩ => some (fd.name, fd.qualname, fd.params, fd.body, fd.scope, fd.globals, fd.closure, fd.builtins)
  | _ => none
def Df.val (d : Df) : FnW := some (d.name, d.qual, defArgs d.st, .stmts (defBody d.st), defScope d.st, mainGlobals, [], builtinsNs)
def Df.dvs (K : PySem.W.Frag) (d : Df) : List V := d.dfl.map (Dv.v K)
def Df.kws (K : PySem.W.Frag) (d : Df) : List (Str × V) := d.kwd.map fun q => (q.1, q.2.v K)
def Df.ok (K : PySem.W.Frag) (d : Df) : Bool := PySem.W.keepIn K (.ref (d.ad K)) && (match K.lookup (d.ad K) with
  | some ⟨_, _, .func fd, _⟩ => PySem.W.codeIn K fd.code d.qual && (dflB K fd.defaults (d.dvs K) && kwdB K fd.kwdefaults (d.kws K))
  | _ => false)
theorem Df.funD {K : PySem.W.Frag} {d : Df} (e : fnAt K (d.ad K) = d.val) (c : d.ok K = true) : ∃ fd, FunD K d.name d.qual (defArgs d.st) (defBody d.st) (defScope d.st) (d.dvs K) (d.kws K) (d.ad K) fd := by
  obtain ⟨kp, c2⟩ := ba c
  unfold fnAt at e
  cases q : K.lookup (d.ad K) with
  | none =>
    rw [q] at c2
    cases c2
  | some o =>
    obtain ⟨oc, od, dt, osl⟩ := o
    rw [q] at c2 e
    cases dt with
    | func fd =>
      obtain ⟨n1, n2, n3, n4, n5, n6, n7, n8, n9, n10, n11, n12, n13, n14, n15⟩ := fd
      have e2 : (some (n1, n2, n3, n4, n5, n6, n7, n15) : FnW) = some (d.name, d.qual, defArgs d.st, .stmts (defBody d.st), defScope d.st, mainGlobals, [], builtinsNs) := e
      simp only [Option.some.injEq, Prod.mk.injEq] at e2
      obtain ⟨h1, h2, h3, h4, h5, h6, h7, h8⟩ := e2
      subst h1 h2 h6 h7 h8
      rw [h3, h4, h5] at q
      have c3 : (PySem.W.codeIn K n13 d.qual && (dflB K n8 (d.dvs K) && kwdB K n9 (d.kws K))) = true := c2
      obtain ⟨k1, k2⟩ := ba c3
      obtain ⟨k3, k4⟩ := ba k2
      exact ⟨_, ⟨oc, od, n8, n9, n10, n11, n12, n13, n14, osl, rfl, q, k1, dflB_ok k3, kwdB_ok k4⟩, kp⟩
    | _ => cases c2
abbrev AlE : Type := Bool × List FnW
def obsE (ex : PySem.W.Frag → Bool) (fn : List Df) (K : PySem.W.Frag) : AlE := (ex K && fn.all fun d => d.ok K, fn.map fun d => fnAt K (d.ad K))
def valE (fn : List Df) : AlE := (true, fn.map Df.val)
def SaysE (ex : PySem.W.Frag → Bool) (fn : List Df) (K : PySem.W.Frag) : Prop := obsE ex fn K = valE fn
def obsEG (n : Nat) (ex : PySem.W.Frag → Bool) (fn : List Df) (g : Addr → Option Obj) : AlE := obsE ex fn (frG g (PySem.cStatics :: asD g n))
def hookE (n : Nat) (ex : PySem.W.Frag → Bool) (fn : List Df) : PySem.W.Hook where
  α := AlE
  obs := fun s => obsEG n ex fn s.heap.get?
  val := fun _ => valE fn
  says := fun _ h => ∃ K : PySem.W.Frag, K.In h ∧ SaysE ex fn K
  of := fun _ _ e => ⟨_, frG_in, e⟩
  keeps := fun _ _ _ ⟨K, hK, c⟩ k => ⟨K, PySem.W.Frag.In.keeps hK k, c⟩
theorem obsEG_eq {n : Nat} {ex : PySem.W.Frag → Bool} {fn : List Df} {g : Addr → Option Obj} {s : Shared} (h : ∀ a, g a = s.heap.get? a) : obsEG n ex fn g = (hookE n ex fn).obs s := by
  have e : g = s.heap.get? := funext h
  rw [e] <;> rfl
section
variable {ex : PySem.W.Frag → Bool} {fn : List Df} {K : PySem.W.Frag}
theorem SaysE.fact (c : SaysE ex fn K) : ex K = true := (ba (show (ex K && fn.all fun d => d.ok K) = true from congrArg (fun z : AlE => z.1) c)).1
theorem SaysE.def_ (c : SaysE ex fn K) (i : Nat) {d : Df} (h : fn[i]? = some d := by rfl) : ∃ fd, FunD K d.name d.qual (defArgs d.st) (defBody d.st) (defScope d.st) (d.dvs K) (d.kws K) (d.ad K) fd := by
  have c2 := (ba (show (ex K && fn.all fun d => d.ok K) = true from congrArg (fun z : AlE => z.1) c)).2
  have e : fn.map (fun d => fnAt K (d.ad K)) = fn.map Df.val := congrArg (fun z : AlE => z.2) c
  have e2 : (fn.map fun d => fnAt K (d.ad K))[i]? = (fn.map Df.val)[i]? := by rw [e]
  rw [List.getElem?_map, List.getElem?_map, h] at e2
  exact Df.funD (Option.some.inj e2) (List.all_eq_true.mp c2 d (List.mem_of_getElem? h))
end
/-! facts of classes -/
/-- what a field, isinstance ask of the class at C -/
structure ClsF (K : PySem.W.Frag) (C : Addr) : Prop where
  cls : Cls K C
  ca : PySem.W.findIn K (.ref C) "__class__" = some (some (.builtin "object.__class__"))
  cn : PySem.W.specialIn K (.builtin "object.__class__") "__get__" = some (some (.builtin "getset_descriptor.__get__"))
  ct : PySem.W.takesIn K (.builtin "object.__class__") = some true
  cm : PySem.W.mroIn K C (.type "object") = some true
def clsFB (K : PySem.W.Frag) (C : Addr) : Bool := PySem.W.plainGet K C Str.empty && (PySem.W.hasDictIn K C && (PySem.W.plainOver K C && (eqO (PySem.W.findIn K (.ref C) "__setattr__") (some (some (.builtin "object.__setattr__"))) &&
  (eqO (PySem.W.findIn K (.ref C) "__class__") (some (some (.builtin "object.__class__"))) && (eqO (PySem.W.specialIn K (.builtin "object.__class__") "__get__") (some (some (.builtin "getset_descriptor.__get__"))) &&
  (decide (PySem.W.takesIn K (.builtin "object.__class__") = some true) && decide (PySem.W.mroIn K C (.type "object") = some true)))))))
theorem clsFB_ok {K : PySem.W.Frag} {C : Addr} (h : clsFB K C = true) : ClsF K C := by
  obtain ⟨h1, h⟩ := ba h
  obtain ⟨h2, h⟩ := ba h
  obtain ⟨h3, h⟩ := ba h
  obtain ⟨h4, h⟩ := ba h
  obtain ⟨h5, h⟩ := ba h
  obtain ⟨h6, h⟩ := ba h
  obtain ⟨h7, h8⟩ := ba h
  exact ⟨⟨h1, h2, h3, eqO_ok h4⟩, eqO_ok h5, eqO_ok h6, of_decide_eq_true h7, of_decide_eq_true h8⟩
theorem ClsF.ty {K : PySem.W.Frag} {C a dx : Addr} {H : Hp} {fs : List (Str × V)} (c : ClsF K C) (h : H a = some (.ins C dx fs)) : TyX K H (.ref a) (.ref C) := .base (.ins h c.cls c.ca c.cn c.ct c.cm)
def noAtB (K : PySem.W.Frag) (C : Addr) (fs : List Str) : Bool := fs.all fun f => eqO (PySem.W.findIn K (.ref C) f) (some none)
theorem noAtB_ok {K : PySem.W.Frag} {C : Addr} {fs : List Str} (h : noAtB K C fs = true) {f : Str} (hf : f ∈ fs) : NoAttr K C f := eqO_ok (List.all_eq_true.mp h f hf)
def mkB (K : PySem.W.Frag) (C f : Addr) : Bool := PySem.W.makesIn K C && (eqO (PySem.W.findIn K (.ref C) "__init__") (some (some (.ref f))) && (PySem.W.isFn K (.ref f) && PySem.W.keepIn K (.ref C)))
theorem mkB_ok {K : PySem.W.Frag} {C f : Addr} (h : mkB K C f = true) : Mk K C f := by
  obtain ⟨h1, h⟩ := ba h
  obtain ⟨h2, h⟩ := ba h
  obtain ⟨h3, h4⟩ := ba h
  exact ⟨h1, eqO_ok h2, h3, h4⟩
def ownEqB (K : PySem.W.Frag) (C g : Addr) : Bool := eqO (PySem.W.findIn K (.ref C) "__eq__") (some (some (.ref g))) && (PySem.W.isFn K (.ref g) && (eqO (PySem.W.findIn K (.ref C) "__ne__") (some (some (.builtin "object.__ne__"))) && decide (PySem.W.mroIn K C (.type "object") = some true)))
theorem ownEqB_ok {K : PySem.W.Frag} {C g : Addr} (h : ownEqB K C g = true) : OwnEq K C g := by
  obtain ⟨h1, h⟩ := ba h
  obtain ⟨h2, h⟩ := ba h
  obtain ⟨h3, h4⟩ := ba h
  exact ⟨eqO_ok h1, h2, eqO_ok h3, of_decide_eq_true h4⟩
/-- the constant f of the class is the text v -/
def conB (K : PySem.W.Frag) (C : Addr) (f : Str) (v : V) : Bool := (match PySem.W.findIn K (.ref C) f with
  | some (some u) => relB v u && decide (PySem.W.specialIn K u "__get__" = some none)
  | _ => false) && !PySem.W.copiedNames.contains f
theorem conB_ok {K : PySem.W.Frag} {C : Addr} {f : Str} {v : V} (h : conB K C f v = true) : ∃ u, Con K C f v u := by
  obtain ⟨h1, h2⟩ := ba h
  cases e : PySem.W.findIn K (.ref C) f with
  | none => rw [e] at h1; cases h1
  | some r =>
    rw [e] at h1
    cases r with
    | none => cases h1
    | some u =>
      obtain ⟨h3, h4⟩ := ba h1
      exact ⟨u, e, relB_ok h3, of_decide_eq_true h4, by simpa using h2⟩
/-- the type of the class at C -/
def mcOf (K : PySem.W.Frag) (C : Addr) : Value := match K.lookup C with
  | some o => o.cls
  | none => .none
/-- C.m: a staticmethod's def -/
def stAd (K : PySem.W.Frag) (C : Addr) (m : Str) : Addr := match PySem.W.findCls K (.ref C) (mcOf K C) m with
  | some (.get _ (.ref p) _ _) => (match PySem.W.recIn K p "staticmethod" with
    | some (.ref g :: _) => g
    | _ => 0)
  | some (.val (.ref g)) => g
  | _ => 0
end E

/-! t[::-1] of a tuple; makes, static calls by name -/
namespace HT
open PySem PySem.Spec PyProof.Rows
section
variable {prog : Program} {w : World} {A : Around} {E : Value → Shared → Prop} {s : Shared}
theorem adjust_rev (n : Nat) : Builtin.Slice.sliceAdjust none none (-1) (n : Int) = ((n : Int) - 1, -1) := by
  unfold Builtin.Slice.sliceAdjust
  simp
theorem places_rev (n : Nat) : Builtin.Slice.slicePlaces ((n : Int) - 1) (-1) (-1) = n := by
  unfold Builtin.Slice.slicePlaces
  simp
  try omega
theorem pick_rev (xs : Array Value) : ((List.range xs.size).filterMap fun (k : Nat) => xs[(((xs.size : Int) - 1) + (k : Int) * (-1)).toNat]?).toArray = xs.toList.reverse.toArray := by
  congr 1
  refine List.ext_getElem? fun i => ?_
  have key : ∀ m, m ≤ xs.size → (List.range m).filterMap (fun (k : Nat) => xs[(((xs.size : Int) - 1) + (k : Int) * (-1)).toNat]?) = (xs.toList.reverse).take m := by
    intro m
    induction m with
    | zero => intro _; rfl
    | succ m ih =>
      intro hm
      rw [List.range_succ, List.filterMap_append, ih (by omega), List.take_succ]
      congr 1
      have e : (((xs.size : Int) - 1) + (m : Int) * (-1)).toNat = xs.size - 1 - m := by omega
      have e2 : xs.toList.reverse[m]? = xs[xs.size - 1 - m]? := by
        rw [List.getElem?_reverse (by simp; omega)]
        simp
      simp only [List.filterMap_cons, List.filterMap_nil, e, e2]
      cases xs[xs.size - 1 - m]? <;> rfl
  rw [key xs.size (Nat.le_refl _), List.take_of_length_le (by simp)]
theorem sliceApplied_rev {sl : Addr} {vl vu vs : Value} {n : Nat} {Q : Int × Int × Nat → Shared → Prop} (hs : s.heap.IsSliceOf sl vl vu vs) (pl : IsPart vl none) (pu : IsPart vu none) (ps : IsPart vs (some (-1)))
    (h : Q ((n : Int) - 1, -1, n) s) : wpAny (model prog w) A (Builtin.Slice.sliceApplied (.ref sl) (pure (n : Int))) Q E s := by
  obtain ⟨os, hos, hcs, hds⟩ := id hs
  unfold Builtin.Slice.sliceApplied Builtin.Slice.sliceFields
  refine wpAny_bind (wpAny_bind (wpAny_field hos hds (x := vl) rfl (wpAny_bind (wpAny_field hos hds (x := vu) rfl (wpAny_bind (wpAny_field hos hds (x := vs) rfl (wpAny_pure ?_)))))))
  refine wpAny_bind (slicePart_ ps ?_)
  show wpAny _ _ (if ((-1 : Int) == 0) = true then _ else _) _ _ s
  rw [if_neg (by decide)]
  refine wpAny_bind (slicePart_ pl (wpAny_bind (slicePart_ pu (wpAny_bind (wpAny_pure ?_)))))
  show wpAny _ _ (match Builtin.Slice.sliceAdjust none none (-1) (n : Int) with | (lo, hi) => pure (lo, (-1 : Int), Builtin.Slice.slicePlaces lo hi (-1))) _ _ s
  rw [adjust_rev]
  show wpAny _ _ (pure ((n : Int) - 1, (-1 : Int), Builtin.Slice.slicePlaces ((n : Int) - 1) (-1) (-1))) _ _ s
  rw [places_rev]
  exact wpAny_pure h
theorem getItem_tuple_rev {t sl : Addr} {items : Array Value} {vl vu vs : Value} {Q : Value → Shared → Prop} (ht : IsTup s.heap t items) (hs : s.heap.IsSliceOf sl vl vu vs) (pl : IsPart vl none) (pu : IsPart vu none) (ps : IsPart vs (some (-1)))
    (h : Q (.ref s.heap.objs.size) { s with heap := s.heap.push { cls := .type "tuple", data := .seq items.toList.reverse.toArray } })
    (hsz : items.size ≤ sizeLine) : wpAny (model prog w) A (getItem (.ref t) (.ref sl)) Q E s := by
  have htake : sizeOk (.seq items.toList.reverse.toArray) := by
    show items.toList.reverse.toArray.size ≤ sizeLine
    simpa using hsz
  obtain ⟨os, hos, hcs, hds⟩ := id hs
  have hTs : s.TypeIs (.ref sl) "slice" := ⟨os, hos, hcs⟩
  unfold getItem
  try with_reducible refine wpAny_holding ?_
  first | refine wpAny_bind (wpAny_pure ?_) | skip
  refine wpAny_bind (wpAny_sequenceKey ht.typeIs (by decide) ?_)
  refine wpAny_bind (wpAny_callSpecial?_slot (name := Str.ofString "__getitem__") ht.typeIs PyProof.Rows.slot_tuple_getitem
    (wpAny_call_entry PyProof.Rows.slot_tuple_getitem ht.typeIs entry_tuple_getitem ?_ (args_tuple_getitem _ _)))
  show wpAny _ _ (Builtin.Tuple.tupleItemsOf (.ref t) >>= _) _ _ s
  refine wpAny_bind (tupleItemsOf_ ht ?_)
  refine wpAny_bind (wpAny_typeOf hTs ?_)
  rw [if_pos (by decide)]
  refine wpAny_bind (sliceApplied_rev hs pl pu ps ?_)
  have hno : ¬ ((((items.size : Int) - 1) == 0 && (-1 : Int) == 1 && items.size == items.size) = true) := by
    intro q
    rw [Bool.and_eq_true, Bool.and_eq_true] at q
    exact absurd q.1.2 (by decide)
  show wpAny _ _ (if (((items.size : Int) - 1) == 0 && (-1 : Int) == 1 && items.size == items.size) = true then _ else _) _ _ s
  rw [if_neg hno, pick_rev]
  first
    | exact wpAny_bind (m := Builtin.Tuple.tupleExact _) (wpAny_newObj_type (wpAny_pure ⟨_, rfl, wpAny_pure h⟩) htake)
    | exact wpAny_bind (m := Builtin.Tuple.tupleExact _) (wpAny_newObj_type (wpAny_bind (wpAny_pure (wpAny_pure ⟨_, rfl, wpAny_pure h⟩))) htake)
    | exact wpAny_bind (wpAny_bind (m := Builtin.Tuple.tupleExact _) (wpAny_newObj_type (wpAny_pure (wpAny_pure ⟨_, rfl, wpAny_pure h⟩)) htake))
    | exact wpAny_bind (wpAny_bind (m := Builtin.Tuple.tupleExact _) (wpAny_newObj_type (wpAny_pure ⟨_, rfl, wpAny_pure h⟩) htake))
end
end HT
namespace L2
open PySem PySem.Spec PyProof.Rows
section
variable {X : Cx}
def tRevT (K : PySem.W.Frag) (te : TE) : TE := fun σ H Q => te σ H fun x H1 => ∃ a xs, x = .ref a ∧ SqT K H1 a xs ∧ ∀ p, H1 p = none → Q (.ref p) (upd H1 p (.tup xs.reverse))
theorem pe_revT {e : Expr} {te : TE} {k : Nat} {p1 p2 p3 pos : Pos} (he : PE X e te) : PE X (.Subscript e (.Slice none none (some (.UnaryOp .USub (.Constant (.int 1) k p1) p2)) p3) pos) (tRevT X.K te) := by
  refine ⟨fun pins s σ H Q I h => ?_⟩
  refine Subscript_ (thn (he.run pins s σ H _ I h) fun v s1 ⟨x, H1, I1, r1, q1⟩ => ?_)
  obtain ⟨a, xs, ex, hx, q⟩ := q1
  subst ex
  cases r1
  have hst : PO X (some (.UnaryOp .USub (.Constant (.int 1) k p1) p2)) (tPart (tUn (rU fun i => .int (-i)) (tC (.int 1)))) := po_some (pe_un un_neg pe_int)
  refine wpAny_Slice (thn (po_none.run pins s1 σ H1 (fun o H2 => o = none ∧ H2 = H1) I1 ⟨rfl, rfl⟩) fun vl s2 ⟨l, H2, I2, pl, el, e2⟩ => ?_)
  subst el e2
  refine thn (po_none.run pins s2 σ H2 (fun o H3 => o = none ∧ H3 = H2) I2 ⟨rfl, rfl⟩) fun vu s3 ⟨u, H3, I3, pu, eu, e3⟩ => ?_
  subst eu e3
  refine thn (hst.run pins s3 σ H3 (fun o H4 => o = some (-1) ∧ H4 = H3) I3 ⟨1, rfl, -1, rfl, rfl, rfl⟩) fun vs s4 ⟨o, H4, I4, ps, eo, e4⟩ => ?_
  subst eo e4
  have I5 : Inv X pins σ H4 { s4 with heap := s4.heap.push { cls := .type "slice", data := .fields #[vl, vu, vs] } } := I4.kept (t' := s4.toks) fun b ob q => Heap.get?_push_of_some _ q
  obtain ⟨its, r, ht, hz⟩ := I5.tuple hx
  have hlen := r.length
  show wpAny (model X.prog X.w) X.A (subscriptTail e (.Slice none none (some (.UnaryOp .USub (.Constant (.int 1) k p1) p2)) p3) (.ref a) (.ref s4.heap.objs.size)) (EP X pins σ Q) X.xe { s4 with heap := s4.heap.push { cls := .type "slice", data := .fields #[vl, vu, vs] } }
  refine tail_any (ops := [.ref a, .ref s4.heap.objs.size]) ht.typeIs (PyProof.Rows.slot_tuple_getitem.lookup) ?_ (by with_unfolding_all rfl)
  refine HT.getItem_tuple_rev ht (Heap.IsSliceOf.new _ vl vu vs) pl pu ps ?_ (by rw [List.size_toArray]; omega)
  refine ⟨.ref _, _, I5.laid (t' := s4.toks) (o := .tup xs.reverse) (fun b ob q => Heap.get?_push_of_some _ q) (Nat.le_refl _) ?_, rfl, q _ (I5.hok.fresh (Nat.le_refl _))⟩
  exact ⟨by rw [List.length_reverse]; exact hz, _, r.reverse, IsTup.new _ _⟩
end
end L2
namespace E
open PySem PySem.Spec PyProof.Rows L2 He
/-- a def with keyword-only parameters, by its bindings -/
theorem fnk_kb {P : Program} {w : World} {K : PySem.W.Frag} {mg : Str → Option Value} {base : Heap} {CX : CXT} {k n : Nat} {f : Addr} {fd : FuncData} {ps ks : List Str} {sp : Sp} {g : List Value → List Value → List Value} {gV : List V → List V → List V}
    (F : FnOk P w K mg base CX k f fd ps sp) (hb : KBn K fd ps n ks g gV) : FnK P w K mg base CX k f ks (fun vs zs H Q E => vs.length = n ∧ sp (gV vs zs) H Q E) := by
  intro A outer s H us vs ws zs Q E hr e0 r rz l ⟨hn, h⟩
  have KX : K.In s.heap := e0.mod.kin.keeps fun b o e => (e0.bs b o e).1
  have l1 : us.length = n := by rw [← r.length]; exact hn
  have l2 : ws.length = ks.length := by rw [← rz.length]; exact l
  exact F.run A outer s H ⟨us, ks.zip ws⟩ (g us ws) (gV vs zs) Q E hr e0 (hb.to s us ws KX l1 l2) (hb.rel r rz) h
/-- the module's name x is the class at C, its __init__ keeps sp -/
structure Mkr (P : Program) (w : World) (K : PySem.W.Frag) (mg : Str → Option Value) (base : Heap) (k : Nat) (x : Str) (C : Addr) (kn : List Str) (sp : List V → List V → Hp → VK → XK → Prop) : Prop where
  ex : ∃ f, Mk K C f ∧ FnK P w K mg base CX0 k f kn sp
  hm : mg x = some (.ref C)
structure Stt (P : Program) (w : World) (K : PySem.W.Frag) (mg : Str → Option Value) (base : Heap) (k : Nat) (C : Addr) (m : Str) (kn : List Str) (sp : List V → List V → Hp → VK → XK → Prop) : Prop where
  ex : ∃ mc g, Stat K C mc m g ∧ FnK P w K mg base CX0 k g kn sp
section
variable {X : Cx} {k j : Nat} {C : Addr} {x m : Str} {kn : List Str} {sp : List V → List V → Hp → VK → XK → Prop} {p q pos apos : Pos} {e o : Expr} {es : List Expr} {kws : List Keyword} {ta te : TE} {t tk : TA} {pl : Sem Bool}
theorem pe_mk (c : Mkr X.prog X.w X.K X.mg X.base k x C kn sp) (hr : Room j X.A) (hk : k + 1 ≤ j) (hg : Gl X x) (ha : PA X (e :: es) t) (hkw : PK X kws tk)
    (hall : (backToKw pos (keywordEach kws X.env)).all (·.1.isSome) = true := by rfl) (hks : (backToKw pos (keywordEach kws X.env)).filterMap (·.1) = kn := by rfl) (hdb : (x == ("__debug__" : Str)) = false := by decide)
    (he : starEach (e :: es) X.env = (false, eval e X.env) :: starEach es X.env := by rfl) : PE X (.Call (.Name x p) (e :: es) kws pos) (tMakeA C kn.length sp E0 t tk) := by
  obtain ⟨f, M, F⟩ := c.ex
  exact pe_makeA M F (hr.mono hk) hg c.hm pass0 ha hkw hall hks hdb he
theorem pe_st (he : PE X o ta) (c : Stt X.prog X.w X.K X.mg X.base k C m kn sp) (hr : Room j X.A) (hk : k ≤ j) (ha : PA X (e :: es) t) (hkw : PK X kws tk)
    (hall : (backToKw pos (keywordEach kws X.env)).all (·.1.isSome) = true := by rfl) (hks : (backToKw pos (keywordEach kws X.env)).filterMap (·.1) = kn := by rfl)
    (hst : starEach (e :: es) X.env = (false, eval e X.env) :: starEach es X.env := by rfl)
    (ht : eval (.Call (.Attribute o m apos) (e :: es) kws pos) X.env = (do
      let ov ← eval o X.env
      standAt apos.atName
      let (f, first) ← holding [ov] (getMethod ov m pl)
      callWith pos f first (backTo pos (starEach (e :: es) X.env)) (backToKw pos (keywordEach kws X.env))) := by rfl) :
    PE X (.Call (.Attribute o m apos) (e :: es) kws pos) (tStat C kn.length sp E0 ta t tk) := by
  obtain ⟨mc, g, c, F⟩ := c.ex
  exact pe_stat he c F (hr.mono hk) pass0 ha hkw hall hks hst ht
end
end E

/-! a method whose body is: return super().m() -/
namespace E
open PySem PySem.Spec PyProof.Rows L2 He
open PySem.W (ksEnv ksFn ks_superIn)
def cxK (P : Program) (w : World) (K : PySem.W.Frag) (mg : Str → Option Value) (base : Heap) (qual : Str) (scope : Scope) (f : Addr) (cd : Value) (cc : Addr) (A : Around) (outer : List Env) (s : Shared) (H : Hp) : Cx where
  prog := P
  w := w
  K := K
  mg := mg
  base := base
  A := A.deeper (ksEnv qual scope s.heap.objs.size f cd cc)
  N := []
  s_0 := s
  H_0 := H
  env := ksEnv qual scope s.heap.objs.size f cd cc
  outer := outer
  stack := ksEnv qual scope s.heap.objs.size f cd cc :: outer
  ex := []
  fn := fun _ => false
  calm := true
  pn := []
  xe := fun _ _ => False
/-- what the scope of such a method says -/
structure SupS (scope : Scope) (a : Str) : Prop where
  kind : scope.kind = .function
  sup : scope.names.lookup ("super" : Str) = some .globalImplicit
  cls : scope.names.lookup ("__class__" : Str) = some .free
  arg : scope.names.lookup a = some .local
  only : ∀ x, (scope.names.lookup x = some .cell ∨ scope.names.lookup x = some .free) → x = "__class__"
  cell : ∀ x ∈ scope.names, x.2 ≠ .cell
  co : scope.isCoroutine = false
  gen : scope.isGenerator = false
section
variable {P : Program} {w : World} {K : PySem.W.Frag} {mg : Str → Option Value} {base : Heap} {qual name : Str} {scope : Scope} {f cc cda D g : Addr} {A : Around} {outer : List Env} {s : Shared} {H : Hp} {a : Str} {cl : Value} {cld : Option Addr} {csl : Array (Option Value)}
theorem one_cell {x : Str} {c : Addr} (h : ([("__class__", cc)] : List (Str × Addr)).lookup x = some c) : x = "__class__" ∧ c = cc := by
  rw [List.lookup_cons] at h
  split at h
  · rename_i e
    exact ⟨beq_iff_eq.mp e, (Option.some.inj h).symm⟩
  · cases h
theorem inv_sup (S : SupS scope a) (hd : A.handled = none) (e0 : Env0 P w K mg base A outer s H) (hcell : K.lookup cc = some ⟨cl, cld, .cell (some (.ref D)), csl⟩) {h₀ : Heap} {m : Str → Option Value} {t : Nat} (hns : h₀.Ns s.heap.objs.size m) (hk : ∀ b o, s.heap.get? b = some o → h₀.get? b = some o) :
    Inv (cxK P w K mg base qual scope f (.ref cda) cc A outer s H) [] [] H { s with heap := h₀, toks := t } := by
  have noA : ∀ b : Addr, b ∉ (cxK P w K mg base qual scope f (.ref cda) cc A outer s H).ex := fun b z => absurd (show b ∈ ([] : List Addr) from z) (by simp)
  have hb := e0.bs _ _ (e0.mod.kin _ _ hcell)
  refine ⟨⟨e0.mod, S.kind, rfl, rfl, Nat.le_refl _, fun y z c h1 h2 => ?_, fun y hy => ?_, (fun y c h _ => by cases h), fun _ => hd, Around.frames_deeper e0.frames, .inr ⟨rfl, rfl⟩, fun b z => absurd z (noA b), e0.bs, e0.bsz, fun b _ _ => noA b, fun b z => absurd z (noA b), e0.funs, e0.frf⟩,
    rfl, e0.bare, Un.kept hk, ⟨m, hns, fun i y v h1 _ _ => ?_⟩, fun y c h => ?_, e0.hok.fresh (Nat.le_refl _), fun y c h => ?_, fun p hp => absurd (show p ∈ ([] : List (Addr × Obj)) from hp) (by simp), e0.hok.kept hk, rfl⟩
  · exact (one_cell h1).1.trans (one_cell h2).1.symm
  · have e := S.only y hy
    subst e
    exact ⟨cc, rfl⟩
  · exact absurd h1 (by
      show ¬ (([] : List Str)[i]? = some y)
      simp)
  · obtain ⟨_, rfl⟩ := one_cell h
    exact ⟨_, ⟨_, hk _ _ hb.1, rfl⟩⟩
  · obtain ⟨_, rfl⟩ := one_cell h
    exact hb.2
/-- whom super() of the class at D finds for an instance of the class at C -/
structure SupOk (K : PySem.W.Frag) (C D : Addr) (m : Str) (g : Addr) : Prop where
  at_ : ks_superIn K C D m = some (some (.ref g))
  ty : PySem.W.typeIn K (.ref g) = some (.type "function")
  fi : PySem.W.fnIn K g = true
  sub : PySem.W.mroIn K C (.ref D) = some true
theorem fnr_super {params : Arguments} {dV kV doc pm ct oc : Value} {an od : Option Addr} {osl : Array (Option Value)} {m : Str} {p0 p1 apos pos rpos : Pos} {ar : Arg} {vsC : Array Value} {file : Str} {tf : Tok} {ccl : Value} {cdd : Option Addr} {ccs : Array (Option Value)} {cdD : ClassData} {k : Nat} {sp : Sp} {pl : Addr → Sem Bool}
    (S : SupS scope ar.arg)
    (lk : K.lookup f = some ⟨oc, od, .func (ksFn name qual params [.Return (some (.Call (.Attribute (.Call (.Name "super" p0) [] [] p1) m apos) [] [] pos)) rpos] scope dV kV doc pm an (.ref cda) ct cc), osl⟩) (hcd : PySem.W.codeIn K (.ref cda) qual = true)
    (hp : (params.posonlyargs ++ params.args).head? = some ar)
    (hbind : ∀ (s : Shared) (u : Value), BindsTo s (ksFn name qual params [.Return (some (.Call (.Attribute (.Call (.Name "super" p0) [] [] p1) m apos) [] [] pos)) rpos] scope dV kV doc pm an (.ref cda) ct cc) ⟨[u], []⟩ [(ar.arg, u)])
    (hcode : K.lookup cda = some ⟨ccl, cdd, .fields vsC, ccs⟩) (hvs : vsC[2]? = some (.str file tf)) (hfile : ((P.main.file : Str) == file) = true)
    (hcell : K.lookup cc = some ⟨cl, cld, .cell (some (.ref D)), csl⟩) (hD : PySem.W.clsIn K D = some cdD) (hmg : mg "super" = none)
    (htop : (P.main.scope.names.lookup ("super" : Str)).isSome = false) (hst : PySem.W.nsIn K cStatics "thirdparty.any" = some none) (hm : (m == ("__class__" : Str)) = false)
    (ht : ∀ L : Addr, eval (.Call (.Attribute (.Call (.Name "super" p0) [] [] p1) m apos) [] [] pos) (ksEnv qual scope L f (.ref cda) cc) = (do
      let ov ← attributeBase (.Call (.Name "super" p0) [] [] p1) m (ksEnv qual scope L f (.ref cda) cc) (eval (.Call (.Name "super" p0) [] [] p1) (ksEnv qual scope L f (.ref cda) cc))
      standAt apos.atName
      let (f2, first) ← holding [ov] (getMethod ov m (pl L))
      callWith pos f2 first (backTo pos (starEach [] (ksEnv qual scope L f (.ref cda) cc))) []))
    (F : FnR P w K mg base CX0 k g sp) : FnR P w K mg base CX0 (k + 1) f (fun vs H Q E => ∃ x C dx fs, vs = [.ref x] ∧ H x = some (.ins C dx fs) ∧ SupOk K C D m g ∧ sp [.ref x] H Q E) := by
  intro A outer s H us vs Q E hr e0 r hsp
  obtain ⟨x, C, dx, fs, rfl, hx, ok, hq⟩ := hsp
  obtain ⟨u, rfl, ru⟩ := r.one
  cases (show u = Value.ref x from ru)
  have KX : K.In s.heap := e0.mod.kin.keeps fun b o e => (e0.bs b o e).1
  have lim : s.heap.NoLimit := e0.mod.nolimit.keeps fun b o e => (e0.bs b o e).1
  refine PySem.ks_codeAny_call_defAt hr.depth (KX _ _ lk) rfl lim (PySem.W.codeRec_of KX hcd) rfl (hbind s (.ref x)) S.cell (fun y hy => ?_) (fun h₀ hns hk => ?_) S.co S.gen S.kind
  · have e : y = (ar.arg, Value.ref x) := by simpa using hy
    subst e
    exact S.arg
  have I := inv_sup (qual := qual) (f := f) (cda := cda) (t := s.toks + [(ar.arg, Value.ref x)].length) S hr.hd e0 hcell hns hk
  have hr' : Room k (A.deeper (ksEnv qual scope s.heap.objs.size f (.ref cda) cc)) := hr.deeper _
  have fin : PySem.wpAt (model P w) (A.deeper (ksEnv qual scope s.heap.objs.size f (.ref cda) cc)) (.func [.Return (some (.Call (.Attribute (.Call (.Name "super" p0) [] [] p1) m apos) [] [] pos)) rpos] (ksEnv qual scope s.heap.objs.size f (.ref cda) cc))
      (eval (.Call (.Attribute (.Call (.Name "super" p0) [] [] p1) m apos) [] [] pos) (ksEnv qual scope s.heap.objs.size f (.ref cda) cc)) (EP (cxK P w K mg base qual scope f (.ref cda) cc A outer s H) [] [] Q) (fun _ _ => False) { s with heap := h₀, toks := s.toks + [(ar.arg, Value.ref x)].length } := by
    refine PySem.ks_wpAt_MethodCall (pl := pl _) ?_ (ht _)
    have X1 : K.In h₀ := I.kIn
    obtain ⟨mA, O, _⟩ := ins_get I.hok hx
    obtain ⟨odx, J, _⟩ := O.look
    obtain ⟨oD, hD1, hD2⟩ : ∃ oD, h₀.get? D = some oD ∧ oD.data = .cls cdD := by
      unfold PySem.W.clsIn at hD
      split at hD
      · rename_i c d cd' sl ho
        cases hD
        exact ⟨_, X1 _ _ ho, rfl⟩
      · cases hD
    refine PySem.ks_wpAt_super_base (env := ksEnv qual scope s.heap.objs.size f (.ref cda) cc) S.sup S.cls hm rfl (X1 _ _ lk) rfl hp rfl (X1 _ _ hcode) rfl hvs hfile htop ?_
    obtain ⟨mb, hb1, hb2⟩ := I.mod.blt
    refine PySem.W.ks_loadName_global S.kind S.sup (Calls.loadGlobal_builtin (env := ksEnv qual scope s.heap.objs.size f (.ref cda) cc) (I.mod.glob.keeps I.bk) hmg (hb1.keeps I.bk) ((hb2 "super" (by decide)).trans (by decide +kernel)) ⟨rfl, ?_⟩)
    refine wpAny_loadName_free S.kind S.cls rfl ⟨_, X1 _ _ hcell, rfl⟩ ?_
    refine wpAny_loadName_local S.kind S.arg hns (v := .ref x) (by simp) ?_
    refine PySem.ks_wpAny_isType_cls hD1 hD2 ⟨rfl, ?_⟩
    refine PySem.ks_wpAny_call_super hD1 hD2 J.at_ J.cls (fun c e => ?_) (PySem.W.looks_mroIn X1 ok.sub) (fun h1 so k1 => ?_)
    · have := J.no
      unfold PySem.W.notCls at this
      rw [e] at this
      exact Bool.noConfusion this
    have I1 := I.kept (h' := h1) (t' := s.toks + [(ar.arg, Value.ref x)].length) k1
    have X2 : K.In h1 := I1.kIn
    obtain ⟨mA2, O2, _⟩ := ins_get I1.hok hx
    obtain ⟨odx2, J2, _⟩ := O2.look
    obtain ⟨of, hof, hofc⟩ : ∃ of, h1.get? g = some of ∧ of.cls = .type "function" := by
      have ht' : (K.lookup g).map (·.cls) = some (.type "function") := ok.ty
      cases z : K.lookup g with
      | none => rw [z] at ht'; cases ht'
      | some of => rw [z] at ht'; exact ⟨of, X2 _ _ z, Option.some.inj ht'⟩
    have hsup := ok.at_
    cases hc : PySem.W.clsIn K C with
    | none => unfold ks_superIn at hsup; rw [hc] at hsup; cases hsup
    | some cd =>
      unfold ks_superIn at hsup
      rw [hc] at hsup
      refine PySem.ks_wpAny_getMethod_super so (PySem.W.looks_opaque X2 hst) (l₀ := cd.mro) ?_ rfl X2 hsup hof hofc (PySem.W.ks_ne X2 J2 hc) hm ?_
      · exact fun A Q E s k q => wpAny_bind ((PySem.W.looks_clsIn X2 hc) A _ E s k (wpAny_pure q))
      · have I2 := I1.kept (h' := h1.push { cls := .type "method", data := .fields #[.ref g, .ref x] }) (t' := s.toks + [(ar.arg, Value.ref x)].length + 1) fun b o e => Heap.get?_push_of_some _ e
        refine PySem.W.callWith_M0 (K := K) (g := g) (self := .ref x) ⟨Heap.get?_push_at rfl rfl, I2.kIn⟩ ok.fi ?_
        refine wpAny_call (PySem.ks_codeAny_call_bound (Heap.get?_push_at rfl rfl) ?_)
        refine codeAny_mono (run_fnR (us := [.ref x]) (vs := [.ref x]) F hr' (fun _ _ _ _ _ _ _ z => False.elim z) I2 (.cons rfl .nil) hq) fun r s' z => ?_
        cases r with
        | error e => exact False.elim z
        | ok fl => cases fl with
          | ret u => exact z
          | next => exact False.elim z
          | brk => exact False.elim z
          | cont => exact False.elim z
  refine PySem.ks_wpAt_execs_cons (PySem.ks_wpAt_Return_some (PySem.ks_wpAt_mono fin (fun v s' z => ?_) fun _ _ z => False.elim z))
  obtain ⟨v', H', J', rv, q⟩ := z
  exact ⟨v', H', J'.os, J'.bare, J'.base, J'.hok, rv, q⟩
end
end E

/-! methods found by the object's class; own in -/
namespace E
open PySem PySem.Spec PyProof.Rows L2 He
/-- each class of cs has a def m that keeps sp for its own objects -/
def Disp (P : Program) (w : World) (K : PySem.W.Frag) (mg : Str → Option Value) (base : Heap) (k : Nat) (cs : List Addr) (m : Str) (sp : Sp) : Prop :=
  ∀ C ∈ cs, Cls K C ∧ ∃ g, Meth K C m g ∧ FnR P w K mg base CX0 k g (fun vs H Q Er => ∃ x rest dx fs, vs = .ref x :: rest ∧ H x = some (.ins C dx fs) ∧ sp vs H Q Er)
def tMethD (cs : List Addr) (m : Str) (sp : Sp) (ta : TE) (t : TA) : TE := fun σ H Q => ta σ H fun x H1 => ∃ a C dx fs, x = .ref a ∧ C ∈ cs ∧ H1 a = some (.ins C dx fs) ∧ fs.lookup m = none ∧ t σ H1 fun vs H2 => (∃ dx fs, H2 a = some (.ins C dx fs)) ∧ sp (x :: vs) H2 Q E0
structure OwnIn (K : PySem.W.Frag) (C g : Addr) : Prop where
  at_ : PySem.W.findIn K (.ref C) "__contains__" = some (some (.ref g))
  fn : PySem.W.isFn K (.ref g) = true
/-- x in y | x not in y by the def at g -/
def rOwnIn (K : PySem.W.Frag) (neg : Bool) (g : Addr) (sp : Sp) (Er : XK) : R2 := fun x y H Q => ∃ a C dx fs, y = .ref a ∧ H a = some (.ins C dx fs) ∧ OwnIn K C g ∧ sp [y, x] H (fun v H' => ∃ b, v = .bl b ∧ Q (.bl (b != neg)) H') Er
section
variable {X : Cx} {k j : Nat} {cs : List Addr} {m : Str} {sp : Sp} {o e : Expr} {es : List Expr} {apos pos : Pos} {ta : TE} {t : TA} {pl : Sem Bool} {g : Addr} {Er : XK} {CX : CXT}
theorem pe_methD0 (he : PE X o ta) (D : Disp X.prog X.w X.K X.mg X.base k cs m sp) (hr : Room j X.A) (hk : k ≤ j)
    (ht : eval (.Call (.Attribute o m apos) [] [] pos) X.env = (do
      let ov ← eval o X.env
      standAt apos.atName
      let (f, first) ← holding [ov] (getMethod ov m pl)
      callWith pos f first (backTo pos (starEach [] X.env)) (backToKw pos (keywordEach [] X.env))) := by rfl) :
    PE X (.Call (.Attribute o m apos) [] [] pos) (tMethD cs m sp ta tNil) := by
  refine ⟨fun pins s σ H Q I h => ?_⟩
  refine PySem.W.methodCall_KW (pl := pl) (thn (he.run pins s σ H _ I h) fun u s1 ⟨x, H1, I1, rx, a, C, dx, fs, ex, hC, ea, l, ⟨dx2, fs2, eb⟩, q⟩ => ?_) ht
  subst ex
  obtain rfl : u = Value.ref a := rx
  obtain ⟨c, f, hm, F⟩ := D C hC
  refine getmeth_ok I1 ea c hm l ?_
  exact PySem.W.callWith_K0 (first := [.ref a]) I1.kIn hm.kp (wpAny_call (run_fnR (us := [.ref a]) (vs := [.ref a]) F (hr.mono hk) pass0 I1 (.cons rfl .nil) ⟨a, [], dx, fs, rfl, ea, q⟩))
theorem pe_methD (he : PE X o ta) (D : Disp X.prog X.w X.K X.mg X.base k cs m sp) (hr : Room j X.A) (hk : k ≤ j) (ha : PA X (e :: es) t)
    (hst : starEach (e :: es) X.env = (false, eval e X.env) :: starEach es X.env := by rfl) (hpl : (backTo pos (starEach es X.env)).any (·.1) = false := by rfl)
    (ht : eval (.Call (.Attribute o m apos) (e :: es) [] pos) X.env = (do
      let ov ← eval o X.env
      standAt apos.atName
      let (f, first) ← holding [ov] (getMethod ov m pl)
      callWith pos f first (backTo pos (starEach (e :: es) X.env)) (backToKw pos (keywordEach [] X.env))) := by rfl) :
    PE X (.Call (.Attribute o m apos) (e :: es) [] pos) (tMethD cs m sp ta t) := by
  refine ⟨fun pins s σ H Q I h => ?_⟩
  refine PySem.W.methodCall_KW (pl := pl) (thn (he.run pins s σ H _ I h) fun u s1 ⟨x, H1, I1, rx, a, C, dx, fs, ex, hC, ea, l, q⟩ => ?_) ht
  subst ex
  obtain rfl : u = Value.ref a := rx
  obtain ⟨c, f, hm, F⟩ := D C hC
  refine getmeth_ok I1 ea c hm l ?_
  refine PySem.W.callWith_K (first := [.ref a]) (h₀ := X.base) I.ok.mod.kin hm.kp (thn (ha.run pos pins s1 σ H1 _ I1 q) fun us s2 ⟨vs, H2, I2, r, ⟨dx2, fs2, eb⟩, q2⟩ => ⟨I2.kIn, ?_⟩) hst hpl
  exact wpAny_call (run_fnR (us := .ref a :: us) (vs := .ref a :: vs) F (hr.mono hk) pass0 I2 (.cons rfl r) ⟨a, vs, dx2, fs2, rfl, eb, q2⟩)
theorem op_ownIn (F : FnR X.prog X.w X.K X.mg X.base CX k g sp) (hr : Room k X.A) (hx : Passes CX X Er) : OpR X (compareOp .In) (rOwnIn X.K false g sp Er) := by
  intro pins s σ H x y u v Q I rx ry h
  obtain ⟨a, C, dx, fs, rfl, ha, O, q⟩ := h
  cases (show v = Value.ref a from ry)
  obtain ⟨mA, OM, _⟩ := ins_get I.hok ha
  obtain ⟨od, J, _⟩ := OM.look
  obtain ⟨m, hF⟩ := I.fr
  refine PySem.W.in_K hF I.ok.mod.kin J O.at_ O.fn ?_
  refine wpAny_mono (wpAny_call (SlX.run_at (A := X.A) (us := [.ref a, u]) (ws := [.ref a, x]) F hr I.env0 hx I (.cons rfl (.cons rx .nil)) q)) (fun w s' z => ?_) fun _ _ x => x
  obtain ⟨z', H', I', rz, r, er, qz⟩ := z
  subst er
  obtain rfl : w = Value.bool r := rz
  have e : (r != false) = r := by cases r <;> rfl
  rw [e] at qz
  exact wpAny_truthy_bool ⟨.bl r, H', I', rfl, qz⟩
theorem op_ownNotIn (F : FnR X.prog X.w X.K X.mg X.base CX k g sp) (hr : Room k X.A) (hx : Passes CX X Er) : OpR X (compareOp .NotIn) (rOwnIn X.K true g sp Er) := by
  intro pins s σ H x y u v Q I rx ry h
  obtain ⟨a, C, dx, fs, rfl, ha, O, q⟩ := h
  cases (show v = Value.ref a from ry)
  obtain ⟨mA, OM, _⟩ := ins_get I.hok ha
  obtain ⟨od, J, _⟩ := OM.look
  obtain ⟨m, hF⟩ := I.fr
  refine PySem.W.notIn_K hF I.ok.mod.kin J O.at_ O.fn ?_
  refine wpAny_mono (wpAny_call (SlX.run_at (A := X.A) (us := [.ref a, u]) (ws := [.ref a, x]) F hr I.env0 hx I (.cons rfl (.cons rx .nil)) q)) (fun w s' z => ?_) fun _ _ x => x
  obtain ⟨z', H', I', rz, r, er, qz⟩ := z
  subst er
  obtain rfl : w = Value.bool r := rz
  have e : (r != true) = !r := by cases r <;> rfl
  rw [e] at qz
  exact wpAny_truthy_bool ⟨.bl (!r), H', I', rfl, qz⟩
end
section
variable {K : PySem.W.Frag} {σ : L2.St} {H : Hp} {Q : VK} {ta : TE} {t : TA} {m : Str} {cs : List Addr} {sp : Sp} {f : Str}
theorem g_mD (h : ta σ H fun x H1 => ∃ a C dx fs, x = .ref a ∧ C ∈ cs ∧ H1 a = some (.ins C dx fs) ∧ fs.lookup m = none ∧ t σ H1 fun vs H2 => (∃ dx fs, H2 a = some (.ins C dx fs)) ∧ sp (x :: vs) H2 Q E0) : tMethD cs m sp ta t σ H Q := h
theorem g_cV (h : ta σ H fun x H1 => ∃ C mc v u, x = .ref C ∧ ClX.CRead K C mc ∧ ClX.CVal K C mc f v u ∧ Q v H1) : ClX.tCVal K ta f σ H Q := h
end
/-- C.f is the constant v -/
def cvalB (K : PySem.W.Frag) (C : Addr) (f : Str) (v : V) : Bool := PySem.W.readsIn K C (mcOf K C) && (eqO (PySem.W.specialIn K (.ref C) "__getattribute__") (some (some (.builtin "type.__getattribute__"))) && (match PySem.W.findCls K (.ref C) (mcOf K C) f with
  | some (.val u) => relB v u
  | _ => false))
theorem cvalB_ok {K : PySem.W.Frag} {C : Addr} {f : Str} {v : V} (h : cvalB K C f v = true) : ∃ mc u, ClX.CRead K C mc ∧ ClX.CVal K C mc f v u := by
  obtain ⟨h1, h⟩ := ba h
  obtain ⟨h2, h3⟩ := ba h
  split at h3
  · rename_i u e
    exact ⟨_, u, ⟨h1, eqO_ok h2⟩, ⟨e, relB_ok h3⟩⟩
  · cases h3
def methB (K : PySem.W.Frag) (C : Addr) (m : Str) (g : Addr) : Bool := eqO (PySem.W.findIn K (.ref C) m) (some (some (.ref g))) && (PySem.W.isFn K (.ref g) && PySem.W.keepIn K (.ref g))
theorem methB_ok {K : PySem.W.Frag} {C : Addr} {m : Str} {g : Addr} (h : methB K C m g = true) : Meth K C m g := by
  obtain ⟨h1, h⟩ := ba h
  obtain ⟨h2, h3⟩ := ba h
  exact ⟨eqO_ok h1, h2, h3⟩
def ownInB (K : PySem.W.Frag) (C g : Addr) : Bool := eqO (PySem.W.findIn K (.ref C) "__contains__") (some (some (.ref g))) && PySem.W.isFn K (.ref g)
theorem ownInB_ok {K : PySem.W.Frag} {C g : Addr} (h : ownInB K C g = true) : OwnIn K C g := by
  obtain ⟨h1, h2⟩ := ba h
  exact ⟨eqO_ok h1, h2⟩
def supB (K : PySem.W.Frag) (C D : Addr) (m : Str) (g : Addr) : Bool := decide (PySem.W.ks_superIn K C D m = some (some (.ref g))) && (decide (PySem.W.typeIn K (.ref g) = some (.type "function")) && (PySem.W.fnIn K g && decide (PySem.W.mroIn K C (.ref D) = some true)))
theorem supB_ok {K : PySem.W.Frag} {C D : Addr} {m : Str} {g : Addr} (h : supB K C D m g = true) : SupOk K C D m g := by
  obtain ⟨h1, h⟩ := ba h
  obtain ⟨h2, h⟩ := ba h
  obtain ⟨h3, h4⟩ := ba h
  exact ⟨of_decide_eq_true h1, of_decide_eq_true h2, h3, of_decide_eq_true h4⟩
/-! a method that says super: its function object -/
abbrev FnV : Type := Option (Str × Str × Arguments × FuncBody × Scope × Addr × Addr)
def fnVt (K : PySem.W.Frag) (a : Addr) : FnV := match K.lookup a with
  | some ⟨_, _, .func fd, _⟩ => some (fd.name, fd.qualname, fd.params, fd.body, fd.scope, fd.globals, fd.builtins)
  | _ => none
def cloAd (K : PySem.W.Frag) (a : Addr) : Addr := match K.lookup a with
  | some ⟨_, _, .func fd, _⟩ => (match fd.closure with
    | [(_, c)] => c
    | _ => 0)
  | _ => 0
/-- the closure is the class at D; the code's file is fl -/
def supFB (K : PySem.W.Frag) (a D : Addr) (fl qual : Str) : Bool := (PySem.W.clsIn K D).isSome && (match K.lookup a with
  | some ⟨_, _, .func fd, _⟩ => decide (fd.defaults = Value.none) && ((match fd.closure with
    | [(x, c)] => decide (x = "__class__") && (match K.lookup c with
      | some ⟨_, _, .cell (some (.ref E)), _⟩ => decide (E = D)
      | _ => false)
    | _ => false) && (match fd.code with
    | .ref cda => PySem.W.codeIn K (.ref cda) qual && (match K.lookup cda with
      | some ⟨_, _, .fields vs, _⟩ => (match (vs : Array Value)[2]? with
        | some (Value.str file _) => fl == file
        | _ => false)
      | _ => false)
    | _ => false))
  | _ => false)
/-- what is known of such a method at a -/
structure SupF (K : PySem.W.Frag) (a D : Addr) (fl name qual : Str) (params : Arguments) (body : List Stmt) (scope : Scope) : Prop where
  ex : ∃ (oc kV doc pm ct : Value) (od an : Option Addr) (osl : Array (Option Value)) (cda cc : Addr) (ccl cl : Value) (cdd cld : Option Addr) (vs : Array Value) (ccs csl : Array (Option Value)) (file : Str) (tf : Tok) (cdD : ClassData),
    K.lookup a = some ⟨oc, od, .func (PySem.W.ksFn name qual params body scope .none kV doc pm an (.ref cda) ct cc), osl⟩ ∧ PySem.W.codeIn K (.ref cda) qual = true ∧ K.lookup cda = some ⟨ccl, cdd, .fields vs, ccs⟩ ∧ vs[2]? = some (.str file tf) ∧ (fl == file) = true ∧
    K.lookup cc = some ⟨cl, cld, .cell (some (.ref D)), csl⟩ ∧ PySem.W.clsIn K D = some cdD
theorem supF_of {K : PySem.W.Frag} {a D : Addr} {fl name qual : Str} {params : Arguments} {body : List Stmt} {scope : Scope} (e : fnVt K a = some (name, qual, params, .stmts body, scope, mainGlobals, builtinsNs)) (h : supFB K a D fl qual = true) : SupF K a D fl name qual params body scope := by
  unfold fnVt at e
  obtain ⟨h1, h2⟩ := ba h
  obtain ⟨cdD, hcd⟩ := Option.isSome_iff_exists.mp h1
  cases q : K.lookup a with
  | none => rw [q] at e; cases e
  | some ob =>
    obtain ⟨oc, od, dt, osl⟩ := ob
    rw [q] at e h2
    cases dt with
    | func fd =>
      obtain ⟨n1, n2, n3, n4, n5, n6, n7, n8, n9, n10, n11, n12, n13, n14, n15⟩ := fd
      have e2 : (some (n1, n2, n3, n4, n5, n6, n15) : FnV) = some (name, qual, params, .stmts body, scope, mainGlobals, builtinsNs) := e
      simp only [Option.some.injEq, Prod.mk.injEq] at e2
      obtain ⟨g1, g2, g3, g4, g5, g6, g7⟩ := e2
      subst g1 g2 g3 g4 g5 g6 g7
      obtain ⟨h0, h9⟩ := ba h2
      clear h2
      have e0 : n8 = Value.none := of_decide_eq_true h0
      subst e0
      obtain ⟨h3, h4⟩ := ba h9
      clear h9
      dsimp only at h3 h4
      split at h3
      · rename_i x c
        obtain ⟨h5, h6⟩ := ba h3
        have e5 := of_decide_eq_true h5
        subst e5
        split at h6
        · rename_i cl cld EE csl hc
          have e6 := of_decide_eq_true h6
          subst e6
          split at h4
          · rename_i cda
            obtain ⟨h7, h8⟩ := ba h4
            split at h8
            · rename_i ccl cdd vs ccs hcc
              split at h8
              · rename_i file tf hv
                exact ⟨oc, n9, n10, n11, n14, od, n12, osl, cda, c, ccl, cl, cdd, cld, vs, ccs, csl, file, tf, cdD, q, h7, hcc, hv, h8, hc, hcd⟩
              · cases h8
            · cases h8
          · cases h4
        · cases h6
      · cases h3
    | _ => cases e
end E

/-! own exceptions over any of four built-in ones, their __init__ walked as a def -/
namespace E
open PySem PySem.Spec PyProof.Rows L2 He
open Builtin Builtin.ObjectAttr
abbrev tlV : List Value := [.type "ValueError", .type "Exception", .type "BaseException", .type "object"]
abbrev tlO : List Value := [.type "OverflowError", .type "ArithmeticError", .type "Exception", .type "BaseException", .type "object"]
abbrev tlL : List Value := [.type "LookupError", .type "Exception", .type "BaseException", .type "object"]
abbrev tlR : List Value := [.type "RuntimeError", .type "Exception", .type "BaseException", .type "object"]
/-- what is known of a base -/
structure BaseF (B newId initId : String) (bm : List Value) : Prop where
  eb : ExcBaseFacts B newId initId bm
  sf : StoreFacts B bm "object.__setattr__" "object"
theorem base_V : BaseF "ValueError" "ValueError.__new__" "ValueError.__init__" tlV := ⟨F.excBase_ValueError, F.store_ValueError⟩
theorem base_O : BaseF "OverflowError" "OverflowError.__new__" "OverflowError.__init__" tlO := ⟨F.excBase_OverflowError, F.store_OverflowError⟩
theorem base_L : BaseF "LookupError" "LookupError.__new__" "LookupError.__init__" tlL := ⟨F.excBase_LookupError, F.store_LookupError⟩
theorem base_R : BaseF "RuntimeError" "RuntimeError.__new__" "RuntimeError.__init__" tlR := ⟨F.excBase_RuntimeError, F.store_RuntimeError⟩
structure OexB (K : PySem.W.Frag) (C : Addr) : Prop where
  ex : ∃ B newId initId bm, BaseF B newId initId bm ∧ PySem.W.excInitIn K C bm newId = true ∧ PySem.W.excOver K C bm = true
  hd : ∃ cd, PySem.W.clsIn K C = some cd ∧ cd.hasDict = true
  sa : PySem.W.findIn K (.ref C) "__setattr__" = some (some (.builtin "object.__setattr__"))
  exC : PySem.W.subIn K (.ref C) (.type "BaseException") = some true
  tyC : PySem.W.typeIn K (.ref C) = some (.type "type")
  kC : PySem.W.keepIn K (.ref C) = true
section
variable {X : Cx} {pins : List (Addr × Obj)} {σ : L2.St} {H : Hp} {s : Shared} {a C dx : Addr} {f : Str} {y : V} {u : Value} {fs : List (Str × V)} {Q : Unit → Shared → Prop} {Er : Value → Shared → Prop} {A : Around}
theorem ostB_new (T : OexB X.K C) (I : Inv X pins σ H s) (e : H a = some (exo a C none)) (hno : NoAttr X.K C f) (ry : RelV y u)
    (h : ∀ dx s', H dx = none → dx ≠ a → Inv X pins σ (upd (upd H dx (exd dx [(f, y)])) a (exo a C (some dx))) s' → Q () s') : wpAny (model X.prog X.w) A (setAttr (.ref a) f u) Q Er s := by
  obtain ⟨B, newId, initId, bm, bf, hin, hov⟩ := T.ex
  obtain ⟨cd, hcd, hh⟩ := T.hd
  obtain ⟨t1, ho⟩ := exo_at I.hok e
  obtain ⟨hp, g, d, t, os⟩ := s
  have J : PySem.W.InstAt hp a ({ cls := .ref C, dict := none, data := .fields #[.ref t1, .none, .none, .none, .bool false, .none] } : Obj) C none := ⟨ho, rfl, rfl, trivial⟩
  have hxs : a ≠ hp.objs.size := Nat.ne_of_lt (Heap.lt_size ho)
  have hcls : PySem.W.Looks (model X.prog X.w) hp (classData C) cd := PySem.W.looks_clsIn I.kIn hcd
  refine PySem.W.set_plain I.kIn J T.sa ?_
  refine PySem.W.osa_openX bf.sf I.kIn J hov hno.taker fun b => ?_
  show wpAny _ _ (storeInOwnDict (.ref a) (.ref C) _ f u b) _ _ _
  have key : ∀ (h' : Heap) (tk' : Nat) (dx : Addr), (∀ b o, b ≠ a → hp.get? b = some o → h'.get? b = some o) → hp.objs.size ≤ dx → dx ≠ a → h'.get? a = some ({ cls := .ref C, dict := some dx, data := .fields #[.ref t1, .none, .none, .none, .bool false, .none] } : Obj) →
      h'.Ns1 dx (fun z => if z = f then some u else none) → Q () ⟨h', g, d, tk', os⟩ := by
    intro h' tk' dx k dn dne hx hn
    have hnd : H dx = none := I.hok.fresh dn
    have nd : ∀ {b : Addr} {o : Obj}, hp.get? b = some o → b ≠ dx := fun {b o} q => Nat.ne_of_lt (Nat.lt_of_lt_of_le (Heap.lt_size q) dn)
    have na : ∀ {b : Addr}, H b = none → b ≠ a := fun {b} n z => by
      rw [z, e] at n
      cases n
    have Un1 : Un X.fs [] H (upd (upd H dx (exd dx [(f, y)])) a (exo a C (some dx))) hp h' := {
      keep := fun b o q n _ _ => k b o (na n) q
      slot := fun b o q n _ _ => ⟨o.slots, k b o (na n) q⟩
      free := fun b o q n _ => by rw [upd_ne (na n), upd_ne (nd q)]; exact n
      there := fun b o q _ => by
        by_cases hb : b = a
        · exact ⟨_, by rw [hb]; exact hx⟩
        · exact ⟨o, k b o hb q⟩
      tups := fun b xs q => by rw [upd_ne (at_ne e q exo_tup), upd_ne (ne_of_none q hnd)]; exact q
      frzs := fun b o v q => by rw [upd_ne (at_ne e q exo_frz), upd_ne (ne_of_none q hnd)]; exact q
      tbls := fun b ps q => ⟨#[], by rw [upd_ne (at_ne e q exo_tbl), upd_ne (ne_of_none q hnd), q]; simp⟩ }
    refine h dx _ hnd dne (I.un (t' := tk') Un1 fun b o q => ?_)
    by_cases hb : b = a
    · subst hb
      rw [upd_same] at q
      cases q
      exact exo_ok hx
    · rw [upd_ne hb] at q
      by_cases hd : b = dx
      · subst hd
        rw [upd_same] at q
        cases q
        exact exd_ok hn (relO_put (fs := []) ry fun g => True.intro)
      · rw [upd_ne hd] at q
        exact (I.hok b o q).stay (fun c v hc z => k c v (by
            rcases hc with hc | hc
            · rw [hc]
              exact hb
            · exact at_ne e hc exo_own) z)
          (fun c hc => by rw [upd_ne (at_ne e hc exo_own), upd_ne (ne_of_none hc hnd)]; exact hc) (fun c xs hc => by rw [upd_ne (at_ne e hc exo_tup), upd_ne (ne_of_none hc hnd)]; exact hc)
  obtain ⟨nm, bs, mro, ns, qn, hd, sn, sb, ab, col, del⟩ := cd
  dsimp only at hh
  subst hh
  unfold storeInOwnDict ownDictForStores
  repeat (first | with_reducible refine PySem.HandSPX.store_in_new ?_ ?_ | with_reducible refine wpAny_loadPart_at ho ?_ | with_reducible refine hcls.at ?_ | wp_step)
  · exact ⟨_, #[], _, (Heap.get?_update_ne _ _ _ _ hxs.symm).trans (Heap.get?_push_at rfl rfl), rfl, fun e he => absurd he (by simp), fun _ => rfl⟩
  · intro h' tk' hn' hs
    have hx₁ : (hp.push { cls := .type "dict", data := .dict #[] }).get? a = some ({ cls := .ref C, dict := none, data := .fields #[.ref t1, .none, .none, .none, .bool false, .none] } : Obj) := Heap.get?_push_of_some _ ho
    refine key h' tk' hp.objs.size (fun b o hb ho => ?_) (Nat.le_refl _) hxs.symm ?_ hn'
    · exact (hs.2 b (Nat.ne_of_lt (Heap.lt_size ho))).trans ((Heap.get?_update_ne _ _ _ _ hb).trans (Heap.get?_push_of_some _ ho))
    · exact (hs.2 a hxs).trans (Heap.get?_update_self _ hx₁ rfl)
theorem ostB_old (T : OexB X.K C) (I : Inv X pins σ H s) (e : H a = some (exo a C (some dx))) (ed : H dx = some (exd dx fs)) (hl : fs.length ≤ 900) (hno : NoAttr X.K C f) (ry : RelV y u)
    (h : ∀ s', Inv X pins σ (upd H dx (exd dx ((f, y) :: fs))) s' → Q () s') : wpAny (model X.prog X.w) A (setAttr (.ref a) f u) Q Er s := by
  obtain ⟨B, newId, initId, bm, bf, hin, hov⟩ := T.ex
  obtain ⟨cd, hcd, hh⟩ := T.hd
  obtain ⟨t1, ho⟩ := exo_at I.hok e
  obtain ⟨mA, hns, rel⟩ := exd_at I.hok ed
  have hw := within_of rel
  obtain ⟨hp, g, d, t, os⟩ := s
  obtain ⟨oD, _, _, hoD, _, _⟩ := hns.count hw
  have J : PySem.W.InstAt hp a ({ cls := .ref C, dict := some dx, data := .fields #[.ref t1, .none, .none, .none, .bool false, .none] } : Obj) C (some oD) := ⟨ho, rfl, rfl, hoD⟩
  have hcls : PySem.W.Looks (model X.prog X.w) hp (classData C) cd := PySem.W.looks_clsIn I.kIn hcd
  refine PySem.W.set_plain I.kIn J T.sa ?_
  refine PySem.W.osa_openX bf.sf I.kIn J hov hno.taker fun b => ?_
  show wpAny _ _ (storeInOwnDict (.ref a) (.ref C) _ f u b) _ _ _
  have key : ∀ h' tk', (∀ b o, b ≠ dx → hp.get? b = some o → h'.get? b = some o) → h'.Ns1 dx (fun z => if z = f then some u else mA z) → Q () ⟨h', g, d, tk', os⟩ := by
    intro h' tk' k hn
    have hd : ∃ o, h'.get? dx = some o := by
      obtain ⟨o, _, _, e', _⟩ := hn
      exact ⟨o, e'⟩
    exact h _ (I.write (t' := tk') (x := dx) (e := dx) (o := exd dx ((f, y) :: fs)) (by rw [ed]; exact True.intro) (.inl rfl) k hd (exd_ok hn (relO_put ry rel)))
  obtain ⟨nm, bs, mro, ns, qn, hd, sn, sb, ab, col, del⟩ := cd
  dsimp only at hh
  subst hh
  unfold storeInOwnDict ownDictForStores
  repeat (first | with_reducible refine PySem.OEX.store_in_old hns hw (by rw [List.length_map]; omega) ?_ | with_reducible refine wpAny_loadPart_at ho ?_ | with_reducible refine hcls.at ?_ | wp_step)
  intro h' tk' hn' hs
  exact key h' tk' (fun b o hb ho => (hs.2 b hb).trans ho) hn'
end
/-- self.f = e, self an exception that is being made -/
def tOsB (K : PySem.W.Frag) (f : Str) (to te : TE) : TS := fun D σ H => te σ H fun y H1 => to σ H1 fun x H2 => ∃ a C : Addr, x = .ref a ∧ OexB K C ∧ NoAttr K C f ∧
  ((H2 a = some (exo a C none) ∧ ∀ dx, H2 dx = none → dx ≠ a → D.nx σ (upd (upd H2 dx (exd dx [(f, y)])) a (exo a C (some dx)))) ∨
    ∃ (dx : Addr) (fs : List (Str × V)), H2 a = some (exo a C (some dx)) ∧ H2 dx = some (exd dx fs) ∧ fs.length ≤ 900 ∧ D.nx σ (upd H2 dx (exd dx ((f, y) :: fs))))
section
variable {X : Cx} {o e : Expr} {es : List Expr} {to te : TE} {ta : TA} {f : Str} {p p' p1 p2 pos : Pos}
theorem ps_osB (ho : PE X o to) (he : PE X e te) (hs : swapsWith e (some (.Attribute o f p')) pos.line X.env = pure false := by rfl) : PS X (.Assign [.Attribute o f p'] e pos) (tOsB X.K f to te) := by
  refine ⟨fun pins s σ H D I h => ?_⟩
  refine plainObj_wpAny_Assign_Attribute (thn (he.run pins s σ H _ I h) fun v s1 ⟨y, H1, I1, r1, q1⟩ => thn (ho.run pins s1 σ H1 _ I1 q1) fun u s2 ⟨x, H2, I2, r2, a, C, ex, T, hno, q⟩ => ?_) hs
  subst ex
  obtain rfl : u = Value.ref a := r2
  rcases q with ⟨ea, q⟩ | ⟨dx, fs, ea, ed, hl, q⟩
  · exact ostB_new T I2 ea hno r1 fun dx s' n ne J => ⟨σ, _, J, q dx n ne⟩
  · exact ostB_old T I2 ea ed hl hno r1 fun s' J => ⟨σ, _, J, q⟩
/-- C(e, ..): an own exception -/
theorem pmk_oexB {CX : CXT} {x : Str} {C fI : Addr} {k : Nat} {fd : FuncData} {ps : List Str} {sp : Sp} {ds : List Value} {dvs : List V} (T : OexB X.K C) (iC : PySem.W.findIn X.K (.ref C) "__init__" = some (some (.ref fI))) (tI : PySem.W.typeIn X.K (.ref fI) = some (.type "function"))
    (F1 : FnOk X.prog X.w X.K X.mg X.base CX k fI fd ps sp) (hr : Room (k + 1) X.A) (hb : Binds X.K fd ps ds) (hd : Vals dvs ds) (hx : Passes CX X (fun _ _ _ => False)) (hg : Gl X x) (hm : X.mg x = some (.ref C)) (ha : PA X (e :: es) ta)
    (hdb : (x == ("__debug__" : Str)) = false := by decide) (he : starEach (e :: es) X.env = (false, eval e X.env) :: starEach es X.env := by rfl) (hpl : (backTo pos (starEach es X.env)).any (·.1) = false := by rfl) :
    PMk X (.Call (.Name x p) (e :: es) [] pos) (tMkO C sp dvs ta) := by
  intro pins s σ H Q I h
  obtain ⟨B, newId, initId, bm, bf, hin, hov⟩ := T.ex
  refine wpAny_Call_Name_kw (ld_glob I hg hm ?_ hdb)
  refine PySem.W.callWith_K (h₀ := X.base) I.ok.mod.kin T.kC (thn (ha.run pos pins s σ H _ I h) fun us s1 ⟨vs, H1, I1, r1, hz, q1⟩ => ⟨I1.kIn, ?_⟩) he hpl
  show wpAny _ _ (call (.ref C) us) _ _ _
  obtain ⟨hp, g, dr, tk, os⟩ := s1
  obtain ⟨nm, N, qn, bs, bm', hdct, sn, sub, ab, col, dd, k0, k1, k2, k3, k5, hC, hT⟩ := PySem.W.excInit_of I1.kIn hin
  have hsz : hp.objs.size ≤ hp.objs.size + 1 := Nat.le_succ _
  have hn : H1 (hp.objs.size + 1) = none := I1.hok.fresh hsz
  have hq := q1 (hp.objs.size + 1) hn
  have kk : ∀ b o, hp.get? b = some o → ((hp.push (PySem.W.kdv_tup us)).push (PySem.HandSPX.excO C hp.objs.size)).get? b = some o := fun b o e => Heap.get?_push_of_some _ (Heap.get?_push_of_some _ e)
  have hget : ((hp.push (PySem.W.kdv_tup us)).push (PySem.HandSPX.excO C hp.objs.size)).get? (hp.objs.size + 1) = some (PySem.HandSPX.excO C hp.objs.size) := by heap_get
  have I2 : Inv X pins σ (upd H1 (hp.objs.size + 1) (exo (hp.objs.size + 1) C none)) ⟨(hp.push (PySem.W.kdv_tup us)).push (PySem.HandSPX.excO C hp.objs.size), g, dr, tk, os⟩ :=
    I1.laid (t' := tk) (a := hp.objs.size + 1) (o := exo (hp.objs.size + 1) C none) (h' := (hp.push (PySem.W.kdv_tup us)).push (PySem.HandSPX.excO C hp.objs.size)) kk hsz (exo_ok hget)
  have r2 : Vals (V.ref (hp.objs.size + 1) :: (vs ++ dvs)) (Value.ref (hp.objs.size + 1) :: (us ++ ds)) := .cons rfl (r1.append hd)
  have hl : (Value.ref (hp.objs.size + 1) :: us ++ ds).length = ps.length := by
    have e := r2.length
    rw [F1.len _ _ _ _ hq] at e
    exact e.symm
  have hus : us.length ≤ sizeLine := by
    rw [← Paired.length r1, sizeLine_eq]
    omega
  refine wpAny_call (PySem.HandSPX.call_own bf.eb hT hC (PySem.W.looks_findIn I1.kIn iC) (fun self => PySem.W.bind_fn I1.kIn self tI) hus
    (codeAny_mono (F1.run _ X.stack _ _ ⟨Value.ref (hp.objs.size + 1) :: us, []⟩ (Value.ref (hp.objs.size + 1) :: (us ++ ds)) _ _ (fun _ _ _ => False) (hr.make C us []) (I2.env0.make C us []) (hb _ (Value.ref (hp.objs.size + 1) :: us) I2.kIn hl) r2 hq) fun r s' hq' => ?_))
  cases r with
  | error er => exact hx pins σ _ _ er s' I2 hq'
  | ok fl =>
    cases fl with
    | ret u =>
      obtain ⟨v, H2, os2, bare2, un2, hok2, rv, ev, d, fs, ea, ed, hd1, q2⟩ := hq'
      subst ev
      obtain ⟨h2, g2, d2, t2, os'⟩ := s'
      exact ⟨rv, mk_end (raises_own T.exC T.tyC) I1 hsz kk un2 hok2 os2 bare2 ea ed hd1 q2⟩
    | next => exact False.elim hq'
    | brk => exact False.elim hq'
    | cont => exact False.elim hq'
end
end E

/-! several clauses: except C as n -/
namespace E
open PySem PySem.Spec PyProof.Rows L2 He
abbrev Cl := Value × Nat × (Addr → Value → Option Addr → TS)
/-- the ends of a clause's suite: the name in slot i goes -/
def endsI (i : Nat) (D : Ends) : Ends := { nx := fun σ' H' => D.nx (σ'.set i none) H', rt := D.rt, bk := fun σ' H' => D.bk (σ'.set i none) H', ct := fun σ' H' => D.ct (σ'.set i none) H' }
def wManyA (K : PySem.W.Frag) (Wout : WX) (D : Ends) : List Cl → WX
  | [] => Wout
  | (c, i, ts) :: r => fun cls d σ H => ∃ b, PySem.W.exmOne K cls c = some b ∧ (b = true → ∀ a, H a = none → ts a cls d (endsI i D) (σ.set i (some (.ref a))) H) ∧ (b = false → wManyA K Wout D r cls d σ H)
inductive HdsA (X : Cx) : List ExceptHandler → List Cl → Prop
  | nil : HdsA X [] []
  | cons {x n : Str} {c : Value} {i : Nat} {ts : Addr → Value → Option Addr → TS} {b₀ : Stmt} {suite : List Stmt} {np pos' : Pos} {hds : List ExceptHandler} {l : List Cl} (hc : Names X x c) (hi : X.N[i]? = some n) (hln : X.env.kindOf n = some .local)
      (hsu : ∀ (a : Addr) (oe : Obj) (cls : Value) (d : Option Addr) (pn : List (Addr × Obj)), Zc cls d oe → (∃ vs, oe.data = .fields vs) → PSs (X.suite a ((a, oe) :: pn)) (b₀ :: suite) (ts a cls d)) (r : HdsA X hds l) :
      HdsA X (.ExceptHandler (some (.Name x np)) (some n) (b₀ :: suite) pos' :: hds) ((c, i, ts) :: l)
section
variable {X : Cx} {body : List Stmt} {h₀ : ExceptHandler} {hds : List ExceptHandler} {l : List Cl} {pos : Pos} {tb : WX → TS} {Wout : WX}
theorem ps_try_manyA (hs : X.stack = X.env :: X.outer) (hf : X.env.frame = some X.env.locals) (hN : X.N.Nodup) (tk : Takes X Wout)
    (hb : ∀ (W : WX) (pn : List (Addr × Obj)) (xe : Value → Shared → Prop), Takes (X.tr pn xe) W → PassesOwn (model X.prog X.w) X.A X.env xe → PSs (X.tr pn xe) body (tb W))
    (hh : HdsA X (h₀ :: hds) l) : PS X (.Try body (h₀ :: hds) [] [] pos) (fun D σ H => tb (wManyA X.K Wout D l) D σ H) := by
  refine ⟨fun pins s σ H D I h => ?_⟩
  have ok := I.ok
  have hfr : X.A.frames = some (X.env :: X.outer) := by rw [ok.frames, hs]
  refine wpAny_Try_except ?_
  refine wpAny_mono ((hb (wManyA X.K Wout D l) (X.pn ++ pins) (fun e s₁ => wpAny (model X.prog X.w) X.A (noteFrame e X.env) (fun _ s₂ => wpAny (model X.prog X.w) X.A (setFlight e none) (fun _ s₃ =>
    wpAny (model X.prog X.w) X.A (handleBy e X.env (h₀ :: hds)) (SP X pins D) X.xe s₃) X.xe s₂) X.xe s₁) (fun u s' xx => ?_) PassesOwn.looking).run [] s σ H D (I.toTry _) h) (fun f s1 hsp => ?_) (fun e s1 he => he)
  · obtain ⟨a, B, sI, pins', σ', H', cls, d, rfl, J', nb, up, sky, na, os, ag, w⟩ := xx
    have J : Inv X pins σ' H' sI := J'.ofTry ok
    have sky' : Sky B (X.env :: X.outer) a (Zc cls d) X.env.locals s'.heap := by rw [← hs]; exact sky
    show wpAny (model X.prog X.w) X.A (noteFrame (.ref a) X.env) _ _ _
    refine Sky.land Zc.steady hfr hf sky' fun h3 fl3 up3 => ?_
    have J3 : Inv X pins σ' H' { s' with heap := h3 } := J.landed nb fl3.1 (up.trans up3) os ag
    obtain ⟨oe3, vs3, he3, hz3, hd3⟩ := fl3.there
    have notFr : ∀ {h : Heap} {o : Obj} {vs : Array Value}, h.FunFrames B (X.env :: X.outer) → h.get? a = some o → o.data = .fields vs → a ∉ frs (X.env :: X.outer) := fun {h o vs} ff e dd hm => by
      obtain ⟨_, o', e', hnf⟩ := ff.mem hm
      rw [e] at e'; cases e'
      exact hnf _ dd
    have nfr := notFr fl3.2.2.1 he3 hd3
    have nL : a ≠ X.env.locals := fun z => nfr (List.mem_filterMap.mpr ⟨X.env, List.mem_cons_self, by rw [hf, z]⟩)
    have nF : a ∉ X.fs := fun hm => by
      obtain ⟨e, he, q⟩ := List.mem_filterMap.mp hm
      exact nfr (List.mem_filterMap.mpr ⟨e, List.mem_cons_of_mem _ he, q⟩)
    have S3 := J3.suite he3 hd3 na nL nF
    have go : ∀ {hds' : List ExceptHandler} {l' : List Cl}, HdsA X hds' l' → wManyA X.K Wout D l' cls d σ' H' →
        wpAny (model X.prog X.w) X.A (handleBy (.ref a) X.env hds') (SP X pins D) X.xe { s' with heap := h3 } := by
      intro hds' l' hk
      induction hk with
      | nil =>
        intro w
        refine wpAny_handleBy_nil ?_
        obtain ⟨k1, k2, k3, oe, vs, T, oT, ts', he, hz, hd, h1, hr⟩ := id fl3
        unfold PySem.passOn
        refine wpAny_bind (wpAny_field he hd h1 ?_)
        rw [if_neg (show ¬ ((Value.ref T == Value.none) = true) from by simp)]
        have fin : wpAny (model X.prog X.w) X.A (setFlight (.ref a) X.env.frame) (fun _ s4 => wpAny (model X.prog X.w) X.A (throw (.ref a) : Sem Flow) (SP X pins D) X.xe s4) X.xe { s' with heap := h3 } := by
          rw [hf]
          refine HandSPX.setFlight_upZ fl3 fun h4 hh4 up4 => wpAny_throw (tk _ _ ?_)
          exact ⟨a, B, sI, pins, σ', H', cls, d, rfl, J, nb, (up.trans up3).trans up4, .inr (.inr (by rw [hs]; exact hh4)), na, os, ag, w⟩
        first
          | exact wpAny_bind (wpAny_pure (wpAny_bind fin))
          | exact wpAny_bind fin
      | @cons x n c i ts b₀ suite np pos' hds2 l2 hc hi hln hsu r ih =>
        intro w
        obtain ⟨b, hb1, hyes, hno⟩ := w
        refine wpAny_handleBy_cons (codeAny_handlers_test ?_) (by intro q; cases q)
        have LT : PySem.W.Looks (model X.prog X.w) h3 (typeOf (.ref a)) cls := fun A Q E s k q => wpAny_typeOf_ref (k _ _ he3) (by rw [hz3.1]; exact q)
        have LM := PySem.W.exm_one (M := model X.prog X.w) (J3.kIn) LT hb1
        have test : ∀ {Q : Value → Shared → Prop} {E : Value → Shared → Prop}, Q c { s' with heap := h3 } → wpAny (model X.prog X.w) (X.A.mark (some (.ref a))) (eval (.Name x np) X.env) Q E { s' with heap := h3 } := fun {Q E} q => by
          obtain ⟨hg, hdbg, hm | ⟨hm, hv, hnn⟩⟩ := hc
          · exact ld_glob (X := X.suite a ((a, oe3) :: (X.pn ++ pins))) S3 hg hm q hdbg
          · exact ld_blt (X := X.suite a ((a, oe3) :: (X.pn ++ pins))) S3 hg hm hv q hnn hdbg
        refine test (LM.here ?_)
        cases b with
        | true =>
          refine codeAny_handlers_suite_as ?_
          refine HandSPX.lands_againZ fl3 fun h4 fl4 up4 => ?_
          have J4 : Inv X pins σ' H' { s' with heap := h4 } := J.landed nb fl4.1 ((up.trans up3).trans up4) os ag
          obtain ⟨oe4, vs4, he4, hz4, hd4⟩ := fl4.there
          have S4 := J4.suite he4 hd4 na nL nF
          refine store_ok (X := X.suite a ((a, oe4) :: (X.pn ++ pins))) (v := .ref a) S4 hN hi (.inl hln) rfl (fun s5 S5 => ?_) (.inr hln)
          refine wpAny_mono ((hsu a oe4 cls d (X.pn ++ pins) hz4 ⟨_, hd4⟩).run [] s5 _ H' _ S5 (hyes rfl a na)) (fun f s6 hsp => ?_) (fun _ _ z => False.elim z)
          have end_ : ∀ {σ6 : L2.St} {H6 : Hp} {Q : Shared → Prop}, Inv (X.suite a ((a, oe4) :: (X.pn ++ pins))) [] σ6 H6 s6 → (∀ s7, Inv X pins (σ6.set i none) H6 s7 → Q s7) →
              wpAny (model X.prog X.w) X.A (do bindName X.env n .none; unbindBehindTheSuite X.env n pos') (fun _ s7 => Q s7) X.xe s6 := fun {σ6 H6 Q} S6 hq => gone_ok (S6.unsuite ok) hN hi hln hq
          cases f with
          | next =>
            obtain ⟨σ6, H6, S6, q6⟩ := hsp
            exact end_ S6 fun s7 J7 => ⟨_, _, J7, q6⟩
          | brk =>
            obtain ⟨σ6, H6, S6, q6⟩ := hsp
            exact end_ S6 fun s7 J7 => ⟨_, _, J7, q6⟩
          | cont =>
            obtain ⟨σ6, H6, S6, q6⟩ := hsp
            exact end_ S6 fun s7 J7 => ⟨_, _, J7, q6⟩
          | ret u =>
            obtain ⟨v6, σ6, H6, S6, r6, q6⟩ := hsp
            exact end_ S6 fun s7 J7 => ⟨_, _, _, J7, r6, q6⟩
        | false =>
          show wpAny _ X.A (handleBy (.ref a) X.env hds2) _ _ _
          exact ih (hno rfl)
    exact go hh w
  · cases f with
    | next =>
      obtain ⟨σ', H', J', q⟩ := hsp
      exact wpAny_execs_nil ⟨σ', H', J'.ofTry ok, q⟩
    | brk =>
      obtain ⟨σ', H', J', q⟩ := hsp
      exact ⟨σ', H', J'.ofTry ok, q⟩
    | cont =>
      obtain ⟨σ', H', J', q⟩ := hsp
      exact ⟨σ', H', J'.ofTry ok, q⟩
    | ret u =>
      obtain ⟨v, σ', H', J', r, q⟩ := hsp
      exact ⟨v, σ', H', J'.ofTry ok, r, q⟩
end
end E

namespace PySem.W
open PySem PySem.Spec PySem.Calls PyProof.Rows
section
variable {prog : Program} {w : World} {A : Around} {Er : Value → Shared → Prop} {s : Shared} {K : Frag} {x D : Addr} {ox : Obj} {od : Obj}
/-- e.__class__ of an own exception that has its dict -/
theorem kin_classD {Q : Option Value → Shared → Prop} (hga : findIn K (.ref D) "__getattribute__" = some (some (.builtin "BaseException.__getattribute__"))) (hgt : findIn K (.ref D) "__getattr__" = some none) (hsub : subIn K (.ref D) (.type "BaseException") = some true)
    (hdct : hasDictIn K D = true) (ha : findIn K (.ref D) "__class__" = some (some (.builtin "object.__class__")))
    (hn : specialIn K (.builtin "object.__class__") "__get__" = some (some (.builtin "getset_descriptor.__get__"))) (htk : takesIn K (.builtin "object.__class__") = some true) (hm : mroIn K D (.type "object") = some true)
    (X : K.In s.heap) (I : InstAt s.heap x ox D (some od)) (h : Q (some (.ref D)) { s with toks := s.toks + 1 }) : wpAny (model prog w) A (getAttr? (.ref x) "__class__") Q Er s := by
  have hf : findObj K D (some od) "__class__" = some (.bind (.builtin "getset_descriptor.__get__") (.builtin "object.__class__")) := findObj_data (by obtain ⟨cd, hc, _⟩ := any_some hdct; rw [hc]; rfl) ha hn htk
  obtain ⟨hp, g, d, t, os⟩ := s
  have L0 := I.type (M := model prog w)
  have L1 := looks_findIn (M := model prog w) X hga
  have L2 := looks_findIn (M := model prog w) X hgt
  have L3 := looks_find (M := model prog w) X I hf
  have sub : Looks (model prog w) hp (isInstance (.ref x) (.type "BaseException")) true := L0.andThen (looks_subIn X hsub)
  have hx2 : (Value.builtin "BaseException.__getattribute__" == Value.builtin "object.__getattribute__") = false := by decide +kernel
  unfold getAttr? getAttrBy? getAttrBy
  refine wpAny_bind (wpAny_mkText (wpAny_bind (wpAny_attempt (wpAny_holding (wpAny_bind (L0.at (wpAny_bind (L1.at ?_))))))))
  show wpAny _ _ (if (onTheHeap (Value.ref D) && Value.builtin "BaseException.__getattribute__" == Value.builtin "object.__getattribute__") = true then _ else _) _ _ _
  rw [hx2, Bool.and_false, if_neg Bool.false_ne_true]
  unfold getAttrByItsOwn hookBefore
  refine wpAny_bind ?_
  rw [if_pos (show onTheHeap (Value.ref D) = true from rfl)]
  refine L2.at ?_
  refine wpAny_bind (wpAny_attempt (wpAny_holding ?_))
  unfold callGetattribute
  rw [if_neg (show ¬ ((false && onTheHeap (Value.builtin "BaseException.__getattribute__")) = true) from Bool.false_ne_true)]
  unfold boundAndCalled
  rw [PySem.F.excAttr_ValueError.ga.bind (.ref x)]
  refine wpAny_bind (wpAny_pure ?_)
  show wpAny _ _ (call (.builtin "BaseException.__getattribute__") [.ref x, .str "__class__" t]) _ _ _
  refine wpAny_call (codeAny_call_builtin PySem.F.excAttr_ValueError.ga.plain PySem.F.entry_bexc_ga ?_)
  refine @check_slot (model prog w) _ _ ⟨hp, g, d, t + 1, os⟩ "BaseException.__getattribute__" "BaseException" "__getattribute__" (.ref x) [.str "__class__" t] [] _ (by decide +kernel) (by decide +kernel) sub (PySem.F.args_bexc_ga (.ref x) (.str "__class__" t)) ?_
  unfold Builtin.«object.__getattribute__»
  refine wpAny_bind (wpAny_of_eq (a := ((Value.ref x : Value), [Value.str "__class__" t])) (by first | rfl | (simp only [slotArgs]; rfl)) ?_)
  refine wpAny_bind (wpAny_pure (wpAny_bind (L0.at (wpAny_bind (L3.at ?_)))))
  show wpAny _ _ (holding [Value.builtin "object.__class__"] (call (.builtin "getset_descriptor.__get__") [.builtin "object.__class__", .ref x, .ref D]) >>= ret) _ _ _
  refine wpAny_bind (wpAny_holding (wpAny_call (class_get (s := ⟨hp, g, d, t + 1, os⟩) (ox := ox) (od := some od) X I hm ?_)))
  refine wpAny_pure ?_
  show wpAny _ _ (handedOut (.ref D)) _ _ _
  rw [handedOut_of (v := .ref D) rfl]
  first
    | exact wpAny_pure (wpAny_pure h)
    | exact wpAny_pure h
    | exact wpAny_pure (wpAny_bind (wpAny_pure (wpAny_pure h)))
theorem kitx_excD (C : L2.ExcC K D) : KitX K (.ref x) (.ref D) (fun h => InstAt h x ox D (some od)) where
  ty := fun _ _ _ I => I.type
  it := fun _ _ X _ => by
    obtain ⟨cdD, hcD, _⟩ := any_some C.hd
    unfold clsIn at hcD
    split at hcD
    · rename_i c' d' cd' sl' ho
      intro A' Q' E' s' k q
      unfold isType loadHead
      exact wpAny_bind (wpAny_loadPart (k _ _ (X _ _ ho)) (wpAny_pure q))
    · cases hcD
  ne := (handS_kitx_exc (x := x) (ox := ox) C.hg C.hk C.hs C.hd C.ha C.hn C.ht C.hm).ne
  ca := fun X I k => kin_classD C.hg C.hk C.hs C.hd C.ha C.hn C.ht C.hm X I k
end
end PySem.W

namespace E
open PySem PySem.Spec PyProof.Rows L2 He
/-- isinstance(e, c): e the exception that the suite holds, of the own class at D, its dict at dd -/
def rIsEd (K : PySem.W.Frag) (a : Addr) (cls : Value) (d : Option Addr) : List V → Hp → VK → Prop := fun xs H Q => ∃ (c : V) (cv : Value) (b : Bool) (D dd : Addr) (fs : List (Str × V)), xs = [.ref a, c] ∧ cls = .ref D ∧ d = some dd ∧ H dd = some (.xd fs) ∧ ExcC K D ∧ (∀ u, RelV c u → u = cv) ∧ PySem.W.kitOne K (.ref D) cv = some b ∧ Q (.bl b) H
theorem call_isEd {X : Cx} {a : Addr} {oe : Obj} {cls : Value} {d : Option Addr} {pn : List (Addr × Obj)} (hz : Zc cls d oe) (hf : ∃ vs, oe.data = .fields vs) : CallR (X.suite a ((a, oe) :: pn)) (.builtin "isinstance") (rIsEd X.K a cls d) := by
  intro pins s σ H xs us Q I r h
  obtain ⟨c, cv, b, D, dd, fs, rfl, rfl, rfl, hdd, C, hcv, e, q⟩ := h
  obtain ⟨u1, u2, rfl, r1, r2⟩ := r.two
  cases (show u1 = Value.ref a from r1)
  have ec := hcv _ r2
  subst ec
  obtain ⟨hget, _⟩ := I.pin (a, oe) (List.mem_append.mpr (.inl List.mem_cons_self))
  obtain ⟨vs, hv⟩ := hf
  have hx : ObjOk X.prog X.w H s.heap dd (.xd fs) := I.hok dd _ hdd
  obtain ⟨mA, hns, hr⟩ := hx
  obtain ⟨od, ho, hl⟩ := lookIn_ns hns
  have J : PySem.W.InstAt s.heap a oe D (some od) := ⟨hget, hz.1, by unfold PySem.W.notCls; rw [hv] <;> rfl, by rw [hz.2]; exact ho⟩
  exact PySem.W.kia_one (PySem.W.kitx_excD C) I.kIn J e (fun z => nomatch z) fun tk => ⟨.bl b, H, I.kept (t' := tk) fun _ _ z => z, rfl, q⟩
end E

/-! calls that may raise: the callee gets the wish W at the present state -/
namespace E
open PySem PySem.Spec PyProof.Rows L2 He
structure CalS (P : Program) (w : World) (K : PySem.W.Frag) (mg : Str → Option Value) (base : Heap) (k : Nat) (x : Str) (sp : Sp) : Prop where
  ex : ∃ (f : Addr) (fd : FuncData) (ps : List Str), FnOk P w K mg base (L2.CX P w) k f fd ps sp ∧ mg x = some (.ref f) ∧ PySem.W.keepIn K (.ref f) = true ∧ Binds K fd ps []
def tMakeX (C : Addr) (m : Nat) (sp : List V → List V → Hp → VK → XK → Prop) (Er : L2.St → XK) (t tk : TA) : TE := fun σ H Q => t σ H fun vs H1 => tk σ H1 fun zs H2 => zs.length = m ∧ ∀ x dx, H2 x = none → H2 dx = none → dx ≠ x →
  sp (.ref x :: vs) zs (upd (upd H2 dx (.own x)) x (.ins C dx [])) (fun v H3 => v = .non ∧ Q (.ref x) H3) (Er σ)
def tStatX (C : Addr) (m : Nat) (sp : List V → List V → Hp → VK → XK → Prop) (Er : L2.St → XK) (ta : TE) (t tk : TA) : TE := fun σ H Q => ta σ H fun x H1 => x = .ref C ∧ t σ H1 fun vs H2 => tk σ H2 fun zs H3 => zs.length = m ∧ sp vs zs H3 Q (Er σ)
structure MkrS (P : Program) (w : World) (K : PySem.W.Frag) (mg : Str → Option Value) (base : Heap) (k : Nat) (x : Str) (C : Addr) (kn : List Str) (sp : List V → List V → Hp → VK → XK → Prop) : Prop where
  ex : ∃ f, Mk K C f ∧ FnK P w K mg base (L2.CX P w) k f kn sp
  hm : mg x = some (.ref C)
structure SttS (P : Program) (w : World) (K : PySem.W.Frag) (mg : Str → Option Value) (base : Heap) (k : Nat) (C : Addr) (m : Str) (kn : List Str) (sp : List V → List V → Hp → VK → XK → Prop) : Prop where
  ex : ∃ mc g, Stat K C mc m g ∧ FnK P w K mg base (L2.CX P w) k g kn sp
section
variable {X : Cx} {k j : Nat} {C f g : Addr} {x m : Str} {sp1 : Sp} {kn : List Str} {sp : List V → List V → Hp → VK → XK → Prop} {p q pos apos : Pos} {e o : Expr} {es : List Expr} {kws : List Keyword} {ta te : TE} {t tk : TA} {pl : Sem Bool} {W : WX} {CX : CXT} {Er : L2.St → XK}
theorem pe_cS (c : CalS X.prog X.w X.K X.mg X.base k x sp1) (hr : Room j X.A) (hk : k ≤ j) (hg : Gl X x) (tw : Takes X W) (ha : PA X (e :: es) t)
    (hdb : (x == ("__debug__" : Str)) = false := by decide) (he : starEach (e :: es) X.env = (false, eval e X.env) :: starEach es X.env := by rfl) (hpl : (backTo pos (starEach es X.env)).any (·.1) = false := by rfl) :
    PE X (.Call (.Name x p) (e :: es) [] pos) (tCallS sp1 (WE W) t) := by
  obtain ⟨f, fd, ps, F, hm, kp, b⟩ := c.ex
  exact pe_callS F (hr.mono hk) hg hm kp b (passAt tw) ha hdb he hpl
theorem run_makeX {pins : List (Addr × Obj)} {σ : L2.St} {H : Hp} {s : Shared} {Q : VK} {us ws : List Value} {vs zs : List V} (M : Mk X.K C f) (F : FnK X.prog X.w X.K X.mg X.base CX k f kn sp) (hr : Room (k + 1) X.A) (hx : PassesAt CX X σ (Er σ))
    (I : Inv X pins σ H s) (r : Vals vs us) (rz : Vals zs ws) (l2 : zs.length = kn.length)
    (h : ∀ x dx, H x = none → H dx = none → dx ≠ x → sp (.ref x :: vs) zs (upd (upd H dx (.own x)) x (.ins C dx [])) (fun v H2 => v = .non ∧ Q (.ref x) H2) (Er σ)) :
    wpAny (model X.prog X.w) X.A (call (.ref C) us (kn.zip ws)) (EP X pins σ Q) X.xe s := by
  have hq := h (s.heap.objs.size + 1) s.heap.objs.size (I.hok.fresh (Nat.le_succ _)) (I.hok.fresh (Nat.le_refl _)) (Nat.ne_of_lt (Nat.lt_succ_self _))
  have I2 := Inv.made (C := C) I
  have r1 : Vals (V.ref (s.heap.objs.size + 1) :: vs) (Value.ref (s.heap.objs.size + 1) :: us) := .cons rfl r
  refine wpAny_call (make_map (f := f) I.kIn M.makes M.init (beq_iff_eq.mp M.fn) (codeAny_mono (F _ X.stack _ _ (Value.ref (s.heap.objs.size + 1) :: us) _ ws zs _ (Er σ) (hr.make C us (kn.zip ws)) (I2.env0.make C us (kn.zip ws)) r1 rz l2 hq) fun r s' hq' => ?_))
  cases r with
  | error e => exact hx pins _ _ e s' I2 hq'
  | ok fl =>
    cases fl with
    | ret u =>
      obtain ⟨v, H', I3, rv, ev, q3⟩ := I2.after hq'
      subst ev
      exact ⟨rv, ⟨V.ref (s.heap.objs.size + 1), H', I3, rfl, q3⟩⟩
    | next => exact False.elim hq'
    | brk => exact False.elim hq'
    | cont => exact False.elim hq'
theorem pe_mkS (c : MkrS X.prog X.w X.K X.mg X.base k x C kn sp) (hr : Room j X.A) (hk : k + 1 ≤ j) (hg : Gl X x) (tw : Takes X W) (ha : PA X (e :: es) t) (hkw : PK X kws tk)
    (hall : (backToKw pos (keywordEach kws X.env)).all (·.1.isSome) = true := by rfl) (hks : (backToKw pos (keywordEach kws X.env)).filterMap (·.1) = kn := by rfl) (hdb : (x == ("__debug__" : Str)) = false := by decide)
    (he : starEach (e :: es) X.env = (false, eval e X.env) :: starEach es X.env := by rfl) : PE X (.Call (.Name x p) (e :: es) kws pos) (tMakeX C kn.length sp (WE W) t tk) := by
  obtain ⟨f, M, F⟩ := c.ex
  refine ⟨fun pins s σ H Q I h => ?_⟩
  refine wpAny_Call_Name_kw (ld_glob I hg c.hm ?_ hdb)
  refine PySem.W.callWith_A (K := X.K) M.kp hall (thn (ha.run pos pins s σ H _ I h) fun us s1 ⟨vs, H1, I1, r, q⟩ => ?_) he
  refine thn (hkw.run pos pins s1 σ H1 _ I1 q) fun ws s2 ⟨zs, H2, I2, rz, l2, q2⟩ => ⟨I2.kIn, ?_⟩
  rw [hks]
  exact run_makeX (Er := WE W) M F (hr.mono hk) (passAt tw σ) I2 r rz l2 q2
theorem run_fnKX {pins : List (Addr × Obj)} {σ : L2.St} {H : Hp} {s : Shared} {Q : VK} {us ws : List Value} {vs zs : List V} (F : FnK X.prog X.w X.K X.mg X.base CX k g kn sp) (hr : Room k X.A) (hx : PassesAt CX X σ (Er σ)) (I : Inv X pins σ H s) (r : Vals vs us) (rz : Vals zs ws) (l : zs.length = kn.length) (h : sp vs zs H Q (Er σ)) :
    wpAny (model X.prog X.w) X.A (call (.ref g) us (kn.zip ws)) (EP X pins σ Q) X.xe s := by
  refine wpAny_call (codeAny_mono (F X.A X.stack s H us vs ws zs Q (Er σ) hr I.env0 r rz l h) fun r s' hq => ?_)
  cases r with
  | error e => exact hx pins H s e s' I hq
  | ok fl =>
    cases fl with
    | ret u => exact I.after hq
    | next => exact False.elim hq
    | brk => exact False.elim hq
    | cont => exact False.elim hq
theorem pe_stS (he : PE X o ta) (c : SttS X.prog X.w X.K X.mg X.base k C m kn sp) (hr : Room j X.A) (hk : k ≤ j) (tw : Takes X W) (ha : PA X (e :: es) t) (hkw : PK X kws tk)
    (hall : (backToKw pos (keywordEach kws X.env)).all (·.1.isSome) = true := by rfl) (hks : (backToKw pos (keywordEach kws X.env)).filterMap (·.1) = kn := by rfl)
    (hst : starEach (e :: es) X.env = (false, eval e X.env) :: starEach es X.env := by rfl)
    (ht : eval (.Call (.Attribute o m apos) (e :: es) kws pos) X.env = (do
      let ov ← eval o X.env
      standAt apos.atName
      let (f, first) ← holding [ov] (getMethod ov m pl)
      callWith pos f first (backTo pos (starEach (e :: es) X.env)) (backToKw pos (keywordEach kws X.env))) := by rfl) :
    PE X (.Call (.Attribute o m apos) (e :: es) kws pos) (tStatX C kn.length sp (WE W) ta t tk) := by
  obtain ⟨mc, g, c, F⟩ := c.ex
  refine ⟨fun pins s σ H Q I h => ?_⟩
  refine PySem.W.methodCall_KW (pl := pl) (thn (he.run pins s σ H _ I h) fun u s1 ⟨x, H1, I1, rx, ex, q⟩ => ?_) ht
  subst ex
  obtain rfl : u = Value.ref C := rx
  refine getmeth_stat I1 c fun s2 I2 => ?_
  refine PySem.W.callWith_A (K := X.K) c.kp hall (thn (ha.run pos pins s2 σ H1 _ I2 q) fun us s3 ⟨vs, H2, I3, r, q2⟩ => ?_) hst
  refine thn (hkw.run pos pins s3 σ H2 _ I3 q2) fun ws s4 ⟨zs, H3, I4, rz, l, q3⟩ => ⟨I4.kIn, ?_⟩
  rw [hks]
  exact run_fnKX (Er := WE W) F (hr.mono hk) (passAt tw σ) I4 r rz l q3
end
end E

/-! raise C(..), C an own exception -/
namespace E
open PySem PySem.Spec PyProof.Rows L2 He
structure Exr (P : Program) (w : World) (K : PySem.W.Frag) (mg : Str → Option Value) (base : Heap) (k : Nat) (x : Str) (C : Addr) (sp : Sp) : Prop where
  ex : ∃ fI fd ps, OexB K C ∧ PySem.W.findIn K (.ref C) "__init__" = some (some (.ref fI)) ∧ PySem.W.typeIn K (.ref fI) = some (.type "function") ∧ FnOk P w K mg base CX0 k fI fd ps sp ∧ Binds K fd ps []
  hm : mg x = some (.ref C)
def tRaise (C : Addr) (sp : Sp) (W : WX) (ta : TA) : TS := fun _ σ H => tMkO C sp [] ta σ H fun cls d H' => W cls d σ H'
section
variable {X : Cx} {k j : Nat} {C : Addr} {x : Str} {sp : Sp} {p pos pos2 : Pos} {e : Expr} {es : List Expr} {ta : TA} {W : WX}
theorem ps_rx (c : Exr X.prog X.w X.K X.mg X.base k x C sp) (hr : Room j X.A) (hk : k + 1 ≤ j) (hc : X.calm = true) (tw : Takes X W) (hg : Gl X x) (ha : PA X (e :: es) ta)
    (hdb : (x == ("__debug__" : Str)) = false := by decide) (he : starEach (e :: es) X.env = (false, eval e X.env) :: starEach es X.env := by rfl) (hpl : (backTo pos (starEach es X.env)).any (·.1) = false := by rfl) :
    PS X (.Raise (some (.Call (.Name x p) (e :: es) [] pos)) none pos2) (tRaise C sp W ta) := by
  obtain ⟨fI, fd, ps, T, iC, tI, F, b⟩ := c.ex
  exact ps_raise hc tw (pmk_oexB T iC tI F (hr.mono hk) b .nil (fun _ _ _ _ _ _ _ h => h.elim) hg c.hm ha hdb he hpl)
end
/-- the class at C is an own exception over the base with this tail -/
def oexB (K : PySem.W.Frag) (C : Addr) (bm : List Value) (newId : String) : Bool := PySem.W.excInitIn K C bm newId && (PySem.W.excOver K C bm && ((PySem.W.clsIn K C).any (·.hasDict) && (eqO (PySem.W.findIn K (.ref C) "__setattr__") (some (some (.builtin "object.__setattr__"))) &&
  (decide (PySem.W.subIn K (.ref C) (.type "BaseException") = some true) && (decide (PySem.W.typeIn K (.ref C) = some (.type "type")) && PySem.W.keepIn K (.ref C))))))
theorem oexB_ok {K : PySem.W.Frag} {C : Addr} {B newId initId : String} {bm : List Value} (bf : BaseF B newId initId bm) (h : oexB K C bm newId = true) : OexB K C := by
  obtain ⟨h1, h⟩ := ba h
  obtain ⟨h2, h⟩ := ba h
  obtain ⟨h3, h⟩ := ba h
  obtain ⟨h4, h⟩ := ba h
  obtain ⟨h5, h⟩ := ba h
  obtain ⟨h6, h7⟩ := ba h
  obtain ⟨cd, hc, hd⟩ := PySem.W.any_some h3
  exact ⟨⟨B, newId, initId, bm, bf, h1, h2⟩, ⟨cd, hc, hd⟩, eqO_ok h4, of_decide_eq_true h5, of_decide_eq_true h6, h7⟩
def excCB (K : PySem.W.Frag) (D : Addr) : Bool := eqO (PySem.W.findIn K (.ref D) "__getattribute__") (some (some (.builtin "BaseException.__getattribute__"))) && (eqO (PySem.W.findIn K (.ref D) "__getattr__") (some none) && (decide (PySem.W.subIn K (.ref D) (.type "BaseException") = some true) && (PySem.W.hasDictIn K D &&
  (eqO (PySem.W.findIn K (.ref D) "__class__") (some (some (.builtin "object.__class__"))) && (eqO (PySem.W.specialIn K (.builtin "object.__class__") "__get__") (some (some (.builtin "getset_descriptor.__get__"))) && (decide (PySem.W.takesIn K (.builtin "object.__class__") = some true) && decide (PySem.W.mroIn K D (.type "object") = some true)))))))
theorem excCB_ok {K : PySem.W.Frag} {D : Addr} (h : excCB K D = true) : ExcC K D := by
  obtain ⟨h1, h⟩ := ba h
  obtain ⟨h2, h⟩ := ba h
  obtain ⟨h3, h⟩ := ba h
  obtain ⟨h4, h⟩ := ba h
  obtain ⟨h5, h⟩ := ba h
  obtain ⟨h6, h⟩ := ba h
  obtain ⟨h7, h8⟩ := ba h
  exact ⟨eqO_ok h1, eqO_ok h2, of_decide_eq_true h3, h4, eqO_ok h5, eqO_ok h6, of_decide_eq_true h7, of_decide_eq_true h8⟩
end E

/-! The plain machine: deep values, cells, a total reading of each construct; and what it says of the abstract heap -/
namespace F
open PySem L2 Evl
/-- a value with all that hangs on it; lists and instances in it stand for good; cel n: the n-th cell -/
inductive D where
  | non | bl (b : Bool) | int (i : Int) | str (x : Str)
  | tup (xs : List D) | lst (xs : List D) | wls (xs : List D)
  | ins (c : Str) (fs : List (Str × D))
  | cel (n : Nat) | cls (c : Str) | ty (n : String)
/-- what may still change -/
inductive C where
  | lst (xs : List D)
  | ins (c : Str) (fs : List (Str × D))
  | set (ks : List Key)
  | dct (kvs : List (Key × D))
  | dead
structure Exn where
  c : Str
  fs : List (Str × D)
abbrev Cells := List C
inductive Out (α : Type) where
  | ok (a : α) (cs : Cells)
  | exc (x : Exn) (cs : Cells)
  | no
abbrev EM (α : Type) := Cells → Out α
def rt {α : Type} (a : α) : EM α := fun cs => .ok a cs
def no {α : Type} : EM α := fun _ => .no
def thr {α : Type} (x : Exn) : EM α := fun cs => .exc x cs
def bd {α β : Type} (m : EM α) (f : α → EM β) : EM β := fun cs => match m cs with
  | .ok a cs' => f a cs'
  | .exc x cs' => .exc x cs'
  | .no => .no
def wp {α : Type} (m : EM α) (cs : Cells) (Q : α → Cells → Prop) (E : Exn → Cells → Prop) : Prop := match m cs with
  | .ok a cs' => Q a cs'
  | .exc x cs' => E x cs'
  | .no => False
section
variable {α β : Type} {m : EM α} {f : α → EM β} {cs : Cells} {Q Q' : α → Cells → Prop} {R : β → Cells → Prop} {E E' : Exn → Cells → Prop}
theorem wp_bd : wp (bd m f) cs R E ↔ wp m cs (fun a cs' => wp (f a) cs' R E) E := by
  unfold wp bd
  cases m cs <;> exact Iff.rfl
theorem wp_rt {a : α} : wp (rt a) cs Q E ↔ Q a cs := Iff.rfl
theorem wp_no : wp (no : EM α) cs Q E ↔ False := Iff.rfl
theorem wp_thr {x : Exn} : wp (thr x : EM α) cs Q E ↔ E x cs := Iff.rfl
theorem wp_imp (h : wp m cs Q E) (hQ : ∀ a cs', Q a cs' → Q' a cs') (hE : ∀ x cs', E x cs' → E' x cs') : wp m cs Q' E' := by
  unfold wp at h ⊢
  cases e : m cs with
  | ok a cs' => rw [e] at h; exact hQ _ _ h
  | exc x cs' => rw [e] at h; exact hE _ _ h
  | no => rw [e] at h; exact h
end
/-! ### slots -/
inductive Sl where
  | emp
  | val (d : D)
  | own (c : C)
  | me (d : D)
  | exn (x : Exn)
abbrev Loc := List Sl
abbrev XE := Loc → EM D
abbrev XB := Loc → EM Bool
abbrev XA := Loc → EM (List D)
inductive Fl where
  | nx (l : Loc) | ret (d : D) | bk (l : Loc) | ct (l : Loc) | ex (x : Exn) (l : Loc)
inductive SO where
  | go (f : Fl) (cs : Cells)
  | no
abbrev XS := Loc → Cells → SO
def wpS (r : SO) (Q : Fl → Cells → Prop) : Prop := match r with
  | .go f cs => Q f cs
  | .no => False
theorem wpS_imp {r : SO} {Q Q' : Fl → Cells → Prop} (h : wpS r Q) (k : ∀ f cs, Q f cs → Q' f cs) : wpS r Q' := by
  cases r with
  | go f cs => exact k _ _ h
  | no => exact h
/-! ### what it says of the heap -/
/-- the program, the world, what is written, the module's names -/
structure Sx where
  P : Program
  w : World
  K : PySem.W.Frag
  mg : Str → Option Value
/-- G: what stands for good; O: what this frame and its callers own; i: where the cells are -/
structure Wd where
  G : Hp
  O : Hp
  i : List Addr
mutual
inductive Rep (Z : Sx) (W : Wd) : V → D → Prop
  | non : Rep Z W .non .non
  | bl (b : Bool) : Rep Z W (.bl b) (.bl b)
  | int (i : Int) : Rep Z W (.int i) (.int i)
  | str {x : Str} (h : x.length ≤ sizeLine) : Rep Z W (.str x) (.str x)
  | tup {a : Addr} {xs : List V} {ds : List D} : SqT Z.K W.G a xs → RepA Z W xs ds → Rep Z W (.ref a) (.tup ds)
  | lst {a : Addr} {xs : List V} {ds : List D} : W.G a = some (.lst xs) → RepA Z W xs ds → Rep Z W (.ref a) (.lst ds)
  | wls {a : Addr} {xs : List V} {ds : List D} : SqL Z.K W.G a xs → RepA Z W xs ds → Rep Z W (.ref a) (.wls ds)
  | ins {a Cl dx : Addr} {fs : List (Str × V)} {ds : List (Str × D)} {c : Str} : Z.mg c = some (.ref Cl) → W.G a = some (.ins Cl dx fs) → RepF Z W fs ds → Rep Z W (.ref a) (.ins c ds)
  | cel {n : Nat} {a : Addr} : W.i[n]? = some a → Rep Z W (.ref a) (.cel n)
  | cls {c : Str} {Cl : Addr} : Z.mg c = some (.ref Cl) → Rep Z W (.ref Cl) (.cls c)
  | ty (n : String) : Rep Z W (.ty n) (.ty n)
inductive RepA (Z : Sx) (W : Wd) : List V → List D → Prop
  | nil : RepA Z W [] []
  | cons {v : V} {vs : List V} {d : D} {ds : List D} : Rep Z W v d → RepA Z W vs ds → RepA Z W (v :: vs) (d :: ds)
inductive RepF (Z : Sx) (W : Wd) : List (Str × V) → List (Str × D) → Prop
  | nil : RepF Z W [] []
  | cons {f : Str} {v : V} {vs : List (Str × V)} {d : D} {ds : List (Str × D)} : Rep Z W v d → RepF Z W vs ds → RepF Z W ((f, v) :: vs) ((f, d) :: ds)
end
/-- more is known -/
structure Le (W W' : Wd) : Prop where
  g : Ex W.G W'.G
  i : ∀ (n : Nat) (a : Addr), W.i[n]? = some a → W'.i[n]? = some a
theorem Le.refl (W : Wd) : Le W W := ⟨Ex.refl _, fun _ _ h => h⟩
theorem Le.trans {W W1 W2 : Wd} (a : Le W W1) (b : Le W1 W2) : Le W W2 := ⟨a.g.trans b.g, fun n x h => b.i n x (a.i n x h)⟩
section
variable {Z : Sx} {W W' : Wd}
mutual
theorem Rep.mono (e : Le W W') : ∀ {v : V} {d : D}, Rep Z W v d → Rep Z W' v d
  | _, _, .non => .non
  | _, _, .bl b => .bl b
  | _, _, .int i => .int i
  | _, _, .str h => .str h
  | _, _, .tup h r => .tup (ex_t e.g h) (RepA.mono e r)
  | _, _, .lst h r => .lst (e.g _ _ h) (RepA.mono e r)
  | _, _, .wls h r => .wls (ex_l e.g h) (RepA.mono e r)
  | _, _, .ins c h r => .ins c (e.g _ _ h) (RepF.mono e r)
  | _, _, .cel h => .cel (e.i _ _ h)
  | _, _, .cls h => .cls h
  | _, _, .ty n => .ty n
theorem RepA.mono (e : Le W W') : ∀ {vs : List V} {ds : List D}, RepA Z W vs ds → RepA Z W' vs ds
  | _, _, .nil => .nil
  | _, _, .cons r t => .cons (Rep.mono e r) (RepA.mono e t)
theorem RepF.mono (e : Le W W') : ∀ {vs : List (Str × V)} {ds : List (Str × D)}, RepF Z W vs ds → RepF Z W' vs ds
  | _, _, .nil => .nil
  | _, _, .cons r t => .cons (Rep.mono e r) (RepF.mono e t)
end
theorem RepA.length : ∀ {vs : List V} {ds : List D}, RepA Z W vs ds → vs.length = ds.length
  | _, _, .nil => rfl
  | _, _, .cons _ t => congrArg (· + 1) (RepA.length t)
theorem RepA.get : ∀ {vs : List V} {ds : List D} {n : Nat} {d : D}, RepA Z W vs ds → ds[n]? = some d → ∃ v, vs[n]? = some v ∧ Rep Z W v d
  | _, _, _, _, .nil, e => by simp at e
  | _, _, 0, _, .cons r _, e => by simp at e; subst e; exact ⟨_, rfl, r⟩
  | _, _, n + 1, d, .cons _ t, e => by
    obtain ⟨u, h1, h2⟩ := RepA.get (n := n) (d := d) t (by simpa using e)
    exact ⟨u, by simpa using h1, h2⟩
theorem RepA.getV : ∀ {vs : List V} {ds : List D} {n : Nat} {v : V}, RepA Z W vs ds → vs[n]? = some v → ∃ d, ds[n]? = some d ∧ Rep Z W v d
  | _, _, _, _, .nil, e => by simp at e
  | _, _, 0, _, .cons r _, e => by simp at e; subst e; exact ⟨_, rfl, r⟩
  | _, _, n + 1, d, .cons _ t, e => by
    obtain ⟨u, h1, h2⟩ := RepA.getV (n := n) (v := d) t (by simpa using e)
    exact ⟨u, by simpa using h1, h2⟩
theorem RepA.append : ∀ {vs us : List V} {ds es : List D}, RepA Z W vs ds → RepA Z W us es → RepA Z W (vs ++ us) (ds ++ es)
  | _, _, _, _, .nil, s => s
  | _, _, _, _, .cons r t, s => .cons r (RepA.append t s)
theorem RepA.take : ∀ {vs : List V} {ds : List D} (n : Nat), RepA Z W vs ds → RepA Z W (vs.take n) (ds.take n)
  | _, _, 0, _ => .nil
  | _, _, _ + 1, .nil => .nil
  | _, _, n + 1, .cons r t => .cons r (RepA.take n t)
theorem RepA.drop : ∀ {vs : List V} {ds : List D} (n : Nat), RepA Z W vs ds → RepA Z W (vs.drop n) (ds.drop n)
  | _, _, 0, r => r
  | _, _, _ + 1, .nil => .nil
  | _, _, n + 1, .cons _ t => RepA.drop n t
theorem RepA.reverse : ∀ {vs : List V} {ds : List D}, RepA Z W vs ds → RepA Z W vs.reverse ds.reverse
  | _, _, .nil => .nil
  | _, _, .cons r t => by
    rw [List.reverse_cons, List.reverse_cons]
    exact (RepA.reverse t).append (.cons r .nil)
theorem RepA.set {v : V} {d : D} (r : Rep Z W v d) : ∀ {vs : List V} {ds : List D} (n : Nat), RepA Z W vs ds → RepA Z W (vs.set n v) (ds.set n d)
  | _, _, _, .nil => .nil
  | _, _, 0, .cons _ t => .cons r t
  | _, _, n + 1, .cons q t => .cons q (RepA.set r n t)
theorem RepF.lookup (f : Str) : ∀ {vs : List (Str × V)} {ds : List (Str × D)} {d : D}, RepF Z W vs ds → ds.lookup f = some d → ∃ v, vs.lookup f = some v ∧ Rep Z W v d
  | _, _, _, .nil, e => by simp at e
  | _, _, d, .cons (f := g) r t, e => by
    rw [List.lookup_cons] at e
    rw [List.lookup_cons]
    cases h : f == g with
    | true =>
      rw [h] at e
      have e' := Option.some.inj e
      subst e'
      exact ⟨_, rfl, r⟩
    | false =>
      rw [h] at e
      exact RepF.lookup f t e
theorem RepF.lookup_none (f : Str) : ∀ {vs : List (Str × V)} {ds : List (Str × D)}, RepF Z W vs ds → ds.lookup f = none → vs.lookup f = none
  | _, _, .nil, e => rfl
  | _, _, .cons (f := g) r t, e => by
    rw [List.lookup_cons] at e
    rw [List.lookup_cons]
    cases h : f == g with
    | true =>
      rw [h] at e
      cases e
    | false =>
      rw [h] at e
      exact RepF.lookup_none f t e
theorem RepF.length : ∀ {vs : List (Str × V)} {ds : List (Str × D)}, RepF Z W vs ds → vs.length = ds.length
  | _, _, .nil => rfl
  | _, _, .cons _ t => congrArg (· + 1) (RepF.length t)
end
/-- an attribute stored -/
def putD (f : Str) (d : D) : List (Str × D) → List (Str × D)
  | [] => [(f, d)]
  | (g, x) :: r => if g = f then (g, d) :: r else (g, x) :: putD f d r
theorem RepF.put {Z : Sx} {W : Wd} {f : Str} {v : V} {d : D} (r : Rep Z W v d) : ∀ {vs : List (Str × V)} {ds : List (Str × D)}, RepF Z W vs ds → RepF Z W (putF f v vs) (putD f d ds)
  | _, _, .nil => .cons r .nil
  | _, _, .cons (f := g) q t => by
    unfold putF putD
    by_cases h : g = f
    · rw [if_pos h, if_pos h]
      exact .cons r t
    · rw [if_neg h, if_neg h]
      exact .cons q (RepF.put r t)
/-- a key of a dict or a set -/
def keyOf : D → Option Key
  | .int i => some (.inl i)
  | .str x => some (.inr x)
  | _ => none
inductive RepK (Z : Sx) (W : Wd) : List (Key × V) → List (Key × D) → Prop
  | nil : RepK Z W [] []
  | cons {k : Key} {v : V} {vs : List (Key × V)} {d : D} {ds : List (Key × D)} : Rep Z W v d → RepK Z W vs ds → RepK Z W ((k, v) :: vs) ((k, d) :: ds)
theorem RepK.mono {Z : Sx} {W W' : Wd} (e : Le W W') : ∀ {vs : List (Key × V)} {ds : List (Key × D)}, RepK Z W vs ds → RepK Z W' vs ds
  | _, _, .nil => .nil
  | _, _, .cons r t => .cons (Rep.mono e r) (RepK.mono e t)
def hasK (ks : List Key) (k : Key) : Bool := ks.any fun j => decide (j = k)
/-- what stands at a cell's address -/
def RepC (Z : Sx) (W : Wd) (a : Addr) (o : HO) : C → Prop
  | .lst ds => ∃ xs, o = .lst xs ∧ RepA Z W xs ds
  | .ins c ds => ∃ Cl dx fs, Z.mg c = some (.ref Cl) ∧ o = .ins Cl dx fs ∧ RepF Z W fs ds
  | .set ks => o = SetK Z.P Z.w a (hasK ks) ks.length
  | .dct kvs => ∃ vs, o = .dK vs ∧ RepK Z W vs kvs
  | .dead => True
theorem RepC.mono {Z : Sx} {W W' : Wd} (e : Le W W') {a : Addr} {o : HO} : ∀ {c : C}, RepC Z W a o c → RepC Z W' a o c
  | .lst _, ⟨xs, h, r⟩ => ⟨xs, h, r.mono e⟩
  | .ins _ _, ⟨Cl, dx, fs, m, h, r⟩ => ⟨Cl, dx, fs, m, h, r.mono e⟩
  | .set _, h => h
  | .dct _, ⟨vs, h, r⟩ => ⟨vs, h, r.mono e⟩
  | .dead, h => h
def RX (Z : Sx) (W : Wd) (cls : Value) (d : Option Addr) (x : Exn) : Prop := ∃ Cl dx fs, Z.mg x.c = some (.ref Cl) ∧ cls = .ref Cl ∧ d = some dx ∧ W.G dx = some (.xd fs) ∧ RepF Z W fs x.fs
theorem RX.mono {Z : Sx} {W W' : Wd} (e : Le W W') {cls : Value} {d : Option Addr} {x : Exn} (h : RX Z W cls d x) : RX Z W' cls d x := by
  obtain ⟨Cl, dx, fs, a, b, c, g, r⟩ := h
  exact ⟨Cl, dx, fs, a, b, c, e.g _ _ g, r.mono e⟩
/-- the heap holds what the machine says -/
structure S (Z : Sx) (W : Wd) (cs : Cells) (H : Hp) : Prop where
  g : Ex W.G H
  o : Ex W.O H
  dj : ∀ a u, W.O a = some u → W.G a = none
  len : W.i.length = cs.length
  nd : W.i.Nodup
  al : ∀ a ∈ W.i, ∃ u, H a = some u
  fo : ∀ a ∈ W.i, W.O a = none
  at_ : ∀ (n : Nat) (a : Addr) (c : C), W.i[n]? = some a → cs[n]? = some c → c ≠ .dead → W.G a = none ∧ ∃ u, H a = some u ∧ RepC Z W a u c
/-- e: the exception that the suite holds; me: where the instance stands that is being made -/
structure ZT where
  e : Option (Addr × Value × Option Addr) := none
  me : Option Addr := none
def isIns : C → Bool
  | .ins _ _ => true
  | _ => false
/-- the slots: B the world at the entry -/
def SlOk (Z : Sx) (z : ZT) (B : Wd) (W : Wd) : Sl → Option (Option V) → Prop
  | .emp, _ => True
  | .val d, v => ∃ u, v = some (some u) ∧ Rep Z W u d
  | .own c, v => ∃ a o, v = some (some (.ref a)) ∧ W.O a = some o ∧ (B.O a = none ∧ (isIns c = true → z.me = some a)) ∧ RepC Z W a o c
  | .me d, v => ∃ a, v = some (some (.ref a)) ∧ z.me = some a ∧ Rep Z W (.ref a) d
  | .exn x, v => ∃ a cls d, z.e = some (a, cls, d) ∧ v = some (some (.ref a)) ∧ RX Z W cls d x
structure LR (Z : Sx) (z : ZT) (B : Wd) (W : Wd) (l : Loc) (σ : L2.St) : Prop where
  len : l.length = σ.length
  sl : ∀ (i : Nat) (s : Sl), l[i]? = some s → SlOk Z z B W s (σ[i]?)
  dj : ∀ (i j : Nat) (c c' : C) (a : Addr), l[i]? = some (.own c) → l[j]? = some (.own c') → σ[i]? = some (some (.ref a)) → σ[j]? = some (some (.ref a)) → i = j
  base : Le B W ∧ Ex B.O W.O
section
variable {Z : Sx} {z : ZT} {B : Wd} {W W' : Wd} {l : Loc} {σ : L2.St} {H : Hp} {cs : Cells}
theorem SlOk.mono (e : Le W W') (ho : W'.O = W.O) : ∀ {s : Sl} {v : Option (Option V)}, SlOk Z z B W s v → SlOk Z z B W' s v
  | .emp, _, _ => True.intro
  | .val _, _, ⟨u, h, r⟩ => ⟨u, h, r.mono e⟩
  | .own _, _, ⟨a, o, h, h2, h3, r⟩ => ⟨a, o, h, by rw [ho]; exact h2, h3, r.mono e⟩
  | .me _, _, ⟨a, h, h2, r⟩ => ⟨a, h, h2, r.mono e⟩
  | .exn _, _, ⟨a, cls, d, h, h2, r⟩ => ⟨a, cls, d, h, h2, r.mono e⟩
theorem LR.mono (e : Le W W') (ho : W'.O = W.O) (h : LR Z z B W l σ) : LR Z z B W' l σ := ⟨h.len, fun i s hs => (h.sl i s hs).mono e ho, h.dj, h.base.1.trans e, by rw [ho]; exact h.base.2⟩
/-! ### readings -/
def tE (Z : Sx) (z : ZT) (B : Wd) (f : XE) (E : Exn → Loc → Cells → Prop) : TE := fun σ H Q => ∃ W cs l, S Z W cs H ∧ LR Z z B W l σ ∧
  wp (f l) cs (fun d cs' => ∀ W' v H', Le W W' → W'.O = W.O → S Z W' cs' H' → Rep Z W' v d → Q v H') (fun x cs' => E x l cs')
def tB (Z : Sx) (z : ZT) (B : Wd) (f : XB) (E : Exn → Loc → Cells → Prop) : TT := fun σ H Q => ∃ W cs l, S Z W cs H ∧ LR Z z B W l σ ∧
  wp (f l) cs (fun b cs' => ∀ W' H', Le W W' → W'.O = W.O → S Z W' cs' H' → Q b H') (fun x cs' => E x l cs')
def tA (Z : Sx) (z : ZT) (B : Wd) (f : XA) (E : Exn → Loc → Cells → Prop) : TA := fun σ H Q => ∃ W cs l, S Z W cs H ∧ LR Z z B W l σ ∧
  wp (f l) cs (fun ds cs' => ∀ W' vs H', Le W W' → W'.O = W.O → S Z W' cs' H' → RepA Z W' vs ds → Q vs H') (fun x cs' => E x l cs')
def post (Z : Sx) (z : ZT) (B : Wd) (W : Wd) (E : Exn → Loc → Cells → Prop) (D : Ends) : Fl → Cells → Prop
  | .nx l', cs' => ∀ W' σ' H', Le W W' → S Z W' cs' H' → LR Z z B W' l' σ' → D.nx σ' H'
  | .bk l', cs' => ∀ W' σ' H', Le W W' → S Z W' cs' H' → LR Z z B W' l' σ' → D.bk σ' H'
  | .ct l', cs' => ∀ W' σ' H', Le W W' → S Z W' cs' H' → LR Z z B W' l' σ' → D.ct σ' H'
  | .ret d, cs' => ∀ W' v H', Le W W' → S Z W' cs' H' → Ex B.O W'.O → Rep Z W' v d → D.rt v H'
  | .ex x l', cs' => E x l' cs'
def tS (Z : Sx) (z : ZT) (B : Wd) (f : XS) (E : Exn → Loc → Cells → Prop) : TS := fun D σ H => ∃ W cs l, S Z W cs H ∧ LR Z z B W l σ ∧ wpS (f l cs) (post Z z B W E D)
/-- the wish of an exception -/
def wx (Z : Sx) (z : ZT) (B : Wd) (E : Exn → Loc → Cells → Prop) : WX := fun cls d σ H => ∃ W cs l x, S Z W cs H ∧ LR Z z B W l σ ∧ RX Z W cls d x ∧ E x l cs
end
abbrev sx (X : Cx) : Sx := ⟨X.prog, X.w, X.K, X.mg⟩
structure JE (X : Cx) (z : ZT) (e : Expr) (f : XE) : Prop where
  run : ∀ (B : Wd) (E : Exn → Loc → Cells → Prop), Takes X (wx (sx X) z B E) → PE X e (tE (sx X) z B f E)
structure JT (X : Cx) (z : ZT) (e : Expr) (f : XB) : Prop where
  run : ∀ (B : Wd) (E : Exn → Loc → Cells → Prop), Takes X (wx (sx X) z B E) → PT X e (tB (sx X) z B f E)
structure JW (X : Cx) (z : ZT) (e : Expr) (f : XB) : Prop where
  run : ∀ (B : Wd) (E : Exn → Loc → Cells → Prop), Takes X (wx (sx X) z B E) → PW X e (tB (sx X) z B f E)
structure JA (X : Cx) (z : ZT) (es : List Expr) (f : XA) : Prop where
  run : ∀ (B : Wd) (E : Exn → Loc → Cells → Prop), Takes X (wx (sx X) z B E) → PA X es (tA (sx X) z B f E)
structure JS (X : Cx) (z : ZT) (st : Stmt) (f : XS) : Prop where
  run : ∀ (B : Wd) (E : Exn → Loc → Cells → Prop), Takes X (wx (sx X) z B E) → PS X st (tS (sx X) z B f E)
structure JSs (X : Cx) (z : ZT) (st : List Stmt) (f : XS) : Prop where
  run : ∀ (B : Wd) (E : Exn → Loc → Cells → Prop), Takes X (wx (sx X) z B E) → PSs X st (tS (sx X) z B f E)
section
variable {X : Cx} {e : Expr} {es : List Expr} {st : Stmt} {sts : List Stmt}
theorem pe_imp {t t' : TE} (h : PE X e t) (k : ∀ σ H Q, t' σ H Q → t σ H Q) : PE X e t' := ⟨fun pins s σ H Q I q => h.run pins s σ H Q I (k _ _ _ q)⟩
theorem pt_imp {t t' : TT} (h : PT X e t) (k : ∀ σ H Q, t' σ H Q → t σ H Q) : PT X e t' := ⟨fun pins s σ H Q I q => h.run pins s σ H Q I (k _ _ _ q)⟩
theorem pw_imp {t t' : TT} (h : PW X e t) (k : ∀ σ H Q, t' σ H Q → t σ H Q) : PW X e t' := ⟨fun wh pins s σ H Q I q => h.run wh pins s σ H Q I (k _ _ _ q)⟩
theorem pa_imp {t t' : TA} (h : PA X es t) (k : ∀ σ H Q, t' σ H Q → t σ H Q) : PA X es t' := ⟨fun pos pins s σ H Q I q => h.run pos pins s σ H Q I (k _ _ _ q)⟩
theorem ps_imp {t t' : TS} (h : PS X st t) (k : ∀ D σ H, t' D σ H → t D σ H) : PS X st t' := ⟨fun pins s σ H D I q => h.run pins s σ H D I (k _ _ _ q)⟩
theorem pss_imp {t t' : TS} (h : PSs X sts t) (k : ∀ D σ H, t' D σ H → t D σ H) : PSs X sts t' := ⟨fun pins s σ H D I q => h.run pins s σ H D I (k _ _ _ q)⟩
end
end F

/-! expressions -/
namespace F
open PySem PySem.Spec PyProof.Rows L2 Evl
def rd {α : Type} (o : Cells → Option α) : EM α := fun cs => match o cs with
  | some a => .ok a cs
  | none => .no
theorem wp_rd {α : Type} {o : Cells → Option α} {cs : Cells} {Q : α → Cells → Prop} {E : Exn → Cells → Prop} : wp (rd o) cs Q E ↔ ∃ r, o cs = some r ∧ Q r cs := by
  unfold wp rd
  cases o cs with
  | none => exact ⟨fun h => h.elim, fun ⟨r, h, _⟩ => nomatch h⟩
  | some a => exact ⟨fun h => ⟨a, rfl, h⟩, fun ⟨r, h, q⟩ => by cases h; exact q⟩
/-! ### the heap grows -/
section
variable {Z : Sx} {W W' : Wd} {cs : Cells} {H : Hp} {p : Addr} {o : HO}
theorem S.freeG (s : S Z W cs H) (h : H p = none) : W.G p = none := fresh_back s.g h
theorem S.freeO (s : S Z W cs H) (h : H p = none) : W.O p = none := fresh_back s.o h
theorem S.freeI (s : S Z W cs H) (h : H p = none) : p ∉ W.i := fun hp => by
  obtain ⟨u, e⟩ := s.al p hp
  rw [h] at e
  cases e
/-- a new object that stands for good -/
abbrev Wd.new (W : Wd) (p : Addr) (o : HO) : Wd := { W with G := upd W.G p o }
theorem S.leNew (s : S Z W cs H) (h : H p = none) : Le W (W.new p o) := ⟨Ex.new (s.freeG h), fun _ _ e => e⟩
theorem S.new (s : S Z W cs H) (h : H p = none) : S Z (W.new p o) cs (upd H p o) where
  g := E.ex_upd s.g p o
  o := s.o.trans (Ex.new h)
  dj := fun a u e => by
    have n : a ≠ p := fun z => by rw [z, s.freeO h] at e; cases e
    show upd W.G p o a = none
    rw [upd_ne n]
    exact s.dj a u e
  len := s.len
  nd := s.nd
  al := fun a ha => by
    obtain ⟨u, e⟩ := s.al a ha
    exact ⟨u, by rw [upd_ne (ne_of_none e h)]; exact e⟩
  fo := s.fo
  at_ := fun n a c e1 e2 e3 => by
    obtain ⟨g, u, e, r⟩ := s.at_ n a c e1 e2 e3
    have ne : a ≠ p := ne_of_none e h
    exact ⟨by show upd W.G p o a = none; rw [upd_ne ne]; exact g, u, by rw [upd_ne ne]; exact e, r.mono (s.leNew h)⟩
end
/-! ### sequences -/
def celL (cs : Cells) (n : Nat) : Option (List D) := match cs[n]? with
  | some (.lst xs) => some xs
  | _ => none
def seqOf (cs : Cells) : D → Option (List D)
  | .tup xs => some xs
  | .lst xs => some xs
  | .wls xs => some xs
  | .cel n => celL cs n
  | _ => none
section
variable {Z : Sx} {W W' : Wd} {cs : Cells} {H : Hp} {p : Addr} {o : HO} {v : V} {d : D} {ds : List D}
theorem celL_ok (s : S Z W cs H) {n : Nat} {a : Addr} (h : W.i[n]? = some a) (e : celL cs n = some ds) : ∃ xs, H a = some (.lst xs) ∧ RepA Z W xs ds ∧ W.G a = none ∧ cs[n]? = some (.lst ds) := by
  unfold celL at e
  split at e
  · rename_i xs hc
    cases e
    obtain ⟨g, u, hu, xs, e, r⟩ := s.at_ n a _ h hc (fun z => nomatch z)
    subst e
    exact ⟨xs, hu, r, g, hc⟩
  · cases e
theorem seq_ok (s : S Z W cs H) (r : Rep Z W v d) (e : seqOf cs d = some ds) : ∃ a xs, v = .ref a ∧ (SqL Z.K H a xs ∨ SqT Z.K H a xs) ∧ RepA Z W xs ds := by
  cases r with
  | tup h r => cases e; exact ⟨_, _, rfl, .inr (ex_t s.g h), r⟩
  | lst h r => cases e; exact ⟨_, _, rfl, .inl (sq_of (s.g _ _ h)), r⟩
  | wls h r => cases e; exact ⟨_, _, rfl, .inl (ex_l s.g h), r⟩
  | cel h =>
    obtain ⟨xs, h1, h2, _⟩ := celL_ok s h e
    exact ⟨_, xs, rfl, .inl (sq_of h1), h2⟩
  | _ => cases e
end
/-! ### readings of operators -/
def r1 (Z : Sx) (g : Cells → D → Option D) : V → Hp → VK → Prop := fun x H Q => ∃ W cs d r, S Z W cs H ∧ Rep Z W x d ∧ g cs d = some r ∧ ∀ W' v H', Le W W' → W'.O = W.O → S Z W' cs H' → Rep Z W' v r → Q v H'
def r2 (Z : Sx) (g : Cells → D → D → Option D) : R2 := fun x y H Q => ∃ W cs d e r, S Z W cs H ∧ Rep Z W x d ∧ Rep Z W y e ∧ g cs d e = some r ∧ ∀ W' v H', Le W W' → W'.O = W.O → S Z W' cs H' → Rep Z W' v r → Q v H'
def rN (Z : Sx) (g : Cells → List D → Option D) : List V → Hp → VK → Prop := fun xs H Q => ∃ W cs ds r, S Z W cs H ∧ RepA Z W xs ds ∧ g cs ds = some r ∧ ∀ W' v H', Le W W' → W'.O = W.O → S Z W' cs H' → Rep Z W' v r → Q v H'
def rM (Z : Sx) (g : Cells → D → List D → Option D) : V → List V → Hp → VK → Prop := fun x xs H Q => ∃ W cs d ds r, S Z W cs H ∧ Rep Z W x d ∧ RepA Z W xs ds ∧ g cs d ds = some r ∧ ∀ W' v H', Le W W' → W'.O = W.O → S Z W' cs H' → Rep Z W' v r → Q v H'
/-! ### the machine's words -/
def xVar (i : Nat) : XE := fun l => match l[i]? with
  | some (.val d) => rt d
  | some (.me d) => rt d
  | _ => no
def xC (d : D) : XE := fun _ => rt d
def x1 (g : Cells → D → Option D) (fa : XE) : XE := fun l => bd (fa l) fun x => rd fun cs => g cs x
def x2 (g : Cells → D → D → Option D) (fa fb : XE) : XE := fun l => bd (fa l) fun x => bd (fb l) fun y => rd fun cs => g cs x y
def xN (g : Cells → List D → Option D) (fa : XA) : XE := fun l => bd (fa l) fun xs => rd fun cs => g cs xs
def xM (g : Cells → D → List D → Option D) (fo : XE) (fa : XA) : XE := fun l => bd (fo l) fun x => bd (fa l) fun xs => rd fun cs => g cs x xs
def asB : D → EM Bool
  | .bl b => rt b
  | _ => no
def bV (f : XE) : XB := fun l => bd (f l) asB
def bNot (f : XB) : XB := fun l => bd (f l) fun b => rt (!b)
def bOr (f g : XB) : XB := fun l => bd (f l) fun b => if b = true then rt true else g l
def bAnd (f g : XB) : XB := fun l => bd (f l) fun b => if b = true then g l else rt false
def xOr (f g : XE) : XE := fun l => bd (bV f l) fun b => if b = true then rt (.bl true) else g l
def xAnd (f g : XE) : XE := fun l => bd (bV f l) fun b => if b = true then g l else rt (.bl false)
def xNot (f : XE) : XE := fun l => bd (bV f l) fun b => rt (.bl (!b))
def xIf (t : XB) (f g : XE) : XE := fun l => bd (t l) fun b => if b = true then f l else g l
def aNil : XA := fun _ => rt []
def aCons (f : XE) (g : XA) : XA := fun l => bd (f l) fun d => bd (g l) fun ds => rt (d :: ds)
def aStar (f : XE) (g : XA) : XA := fun l => bd (f l) fun d => bd (rd fun cs => seqOf cs d) fun xs => bd (g l) fun ds => rt (xs ++ ds)
def xTup (f : XA) : XE := fun l => bd (f l) fun ds => rt (.tup ds)
def xLst (f : XA) : XE := fun l => bd (f l) fun ds => rt (.lst ds)
def fit (ds : List D) : EM Unit := if ds.length ≤ 1000000 then rt () else no
def xTupS (f : XA) : XE := fun l => bd (f l) fun ds => bd (fit ds) fun _ => rt (.tup ds)
def xLstS (f : XA) : XE := fun l => bd (f l) fun ds => bd (fit ds) fun _ => rt (.lst ds)
theorem wp_fit {ds : List D} {cs : Cells} {Q : Unit → Cells → Prop} {E : Exn → Cells → Prop} (h : wp (fit ds) cs Q E) : ds.length ≤ sizeLine ∧ Q () cs := by
  unfold fit at h
  by_cases e : ds.length ≤ 1000000
  · rw [if_pos e] at h
    exact ⟨Nat.le_trans e (by decide), h⟩
  · rw [if_neg e] at h
    exact h.elim
/-! ### the rules -/
section
variable {X : Cx} {z : ZT} {e a b c : Expr} {es : List Expr} {fa fb fc : XE} {ta tb : XB} {f : XA} {pos p : Pos}
theorem je_var {i : Nat} (h : PE X e (tVar i)) : JE X z e (xVar i) := ⟨fun B E tk => pe_imp h fun σ H Q ⟨W, cs, l, s, lr, w⟩ => by
  unfold xVar at w
  split at w
  · rename_i d hd
    obtain ⟨u, hu, r⟩ := lr.sl i _ hd
    exact ⟨u, hu, w W u H (Le.refl _) rfl s r⟩
  · rename_i d hd
    obtain ⟨a, hu, _, r⟩ := lr.sl i _ hd
    exact ⟨_, hu, w W _ H (Le.refl _) rfl s r⟩
  · exact w.elim⟩
theorem je_c {v : V} {d : D} (h : PE X e (tC v)) (r : ∀ W, Rep (sx X) W v d) : JE X z e (xC d) := ⟨fun B E tk => pe_imp h fun σ H Q ⟨W, cs, l, s, lr, w⟩ => w W v H (Le.refl _) rfl s (r W)⟩
theorem je_non {j} : JE X z (.Constant .none j pos) (xC .non) := je_c pe_non fun _ => .non
theorem je_bl {b j} : JE X z (.Constant (.bool b) j pos) (xC (.bl b)) := je_c pe_bl fun _ => .bl b
theorem je_int {i j} : JE X z (.Constant (.int i) j pos) (xC (.int i)) := je_c pe_int fun _ => .int i
theorem je_str {x j} (h : x.length ≤ sizeLine := by decide +kernel) : JE X z (.Constant (.str x) j pos) (xC (.str x)) := je_c pe_str fun _ => .str h
theorem je_1 {g : Cells → D → Option D} (hp : ∀ {t : TE}, PE X a t → PE X e (tUn (r1 (sx X) g) t)) (ha : JE X z a fa) : JE X z e (x1 g fa) := ⟨fun B E tk => pe_imp (hp (ha.run B E tk)) fun σ H Q ⟨W, cs, l, s, lr, w⟩ => by
  refine ⟨W, cs, l, s, lr, wp_imp (wp_bd.mp w) (fun d cs1 w1 W1 v1 H1 le1 o1 s1 r1 => ?_) fun _ _ h => h⟩
  obtain ⟨r, hr, k⟩ := wp_rd.mp w1
  exact ⟨W1, cs1, d, r, s1, r1, hr, fun W3 v H3 le3 o3 s3 r3 => k W3 v H3 (le1.trans le3) (o3.trans o1) s3 r3⟩⟩
theorem two {g : Cells → D → D → Option D} {B : Wd} {E : Exn → Loc → Cells → Prop} {σ : L2.St} {H : Hp} {Q : VK} (h : tE (sx X) z B (x2 g fa fb) E σ H Q) : tOp (r2 (sx X) g) (tE (sx X) z B fa E) (tE (sx X) z B fb E) σ H Q := by
  obtain ⟨W, cs, l, s, lr, w⟩ := h
  refine ⟨W, cs, l, s, lr, wp_imp (wp_bd.mp w) (fun d cs1 w1 W1 v1 H1 le1 o1 s1 r1 => ?_) fun _ _ h => h⟩
  refine ⟨W1, cs1, l, s1, lr.mono le1 o1, wp_imp (wp_bd.mp w1) (fun e cs2 w2 W2 v2 H2 le2 o2 s2 r2 => ?_) fun _ _ h => h⟩
  obtain ⟨r, hr, k⟩ := wp_rd.mp w2
  exact ⟨W2, cs2, d, e, r, s2, r1.mono le2, r2, hr, fun W3 v H3 le3 o3 s3 r3 => k W3 v H3 ((le1.trans le2).trans le3) (o3.trans (o2.trans o1)) s3 r3⟩
theorem je_2 {g : Cells → D → D → Option D} (hp : ∀ {t u : TE}, PE X a t → PE X b u → PE X e (tOp (r2 (sx X) g) t u)) (ha : JE X z a fa) (hb : JE X z b fb) : JE X z e (x2 g fa fb) :=
  ⟨fun B E tk => pe_imp (hp (ha.run B E tk) (hb.run B E tk)) fun _ _ _ h => two h⟩
theorem je_N {g : Cells → List D → Option D} (hp : ∀ {t : TA}, PA X es t → PE X e (tCB (rN (sx X) g) t)) (ha : JA X z es f) : JE X z e (xN g f) := ⟨fun B E tk => pe_imp (hp (ha.run B E tk)) fun σ H Q ⟨W, cs, l, s, lr, w⟩ => by
  refine ⟨W, cs, l, s, lr, wp_imp (wp_bd.mp w) (fun d cs1 w1 W1 v1 H1 le1 o1 s1 r1 => ?_) fun _ _ h => h⟩
  obtain ⟨r, hr, k⟩ := wp_rd.mp w1
  exact ⟨W1, cs1, d, r, s1, r1, hr, fun W3 v H3 le3 o3 s3 r3 => k W3 v H3 (le1.trans le3) (o3.trans o1) s3 r3⟩⟩
/-! tests -/
theorem asB_ok {d : D} {cs : Cells} {Q : Bool → Cells → Prop} {E : Exn → Cells → Prop} (h : wp (asB d) cs Q E) : ∃ b, d = .bl b ∧ Q b cs := by
  cases d <;> first | exact ⟨_, rfl, h⟩ | exact h.elim
theorem bV_ok {B : Wd} {E : Exn → Loc → Cells → Prop} {σ : L2.St} {H : Hp} {Q : Bool → Hp → Prop} (h : tB (sx X) z B (bV fa) E σ H Q) : tE (sx X) z B fa E σ H fun x H1 => ∃ k, x = .bl k ∧ Q k H1 := by
  obtain ⟨W, cs, l, s, lr, w⟩ := h
  refine ⟨W, cs, l, s, lr, wp_imp (wp_bd.mp w) (fun d cs1 w1 W1 v1 H1 le1 o1 s1 r1 => ?_) fun _ _ h => h⟩
  obtain ⟨b, rfl, k⟩ := asB_ok w1
  cases r1
  exact ⟨b, rfl, k W1 H1 le1 o1 s1⟩
theorem jt_val (hp : ∀ {t : TE}, PE X e t → PT X e (L2.tB t)) (h : JE X z e fa) : JT X z e (bV fa) := ⟨fun B E tk => pt_imp (hp (h.run B E tk)) fun σ H Q h => bV_ok h⟩
theorem jt_2 {g : Cells → D → D → Option D} (hp : ∀ {t u : TE}, PE X a t → PE X b u → PT X e (tTest (tOp (r2 (sx X) g) t u))) (ha : JE X z a fa) (hb : JE X z b fb) : JT X z e (bV (x2 g fa fb)) :=
  ⟨fun B E tk => pt_imp (hp (ha.run B E tk) (hb.run B E tk)) fun σ H Q h => two (bV_ok h)⟩
theorem jt_not (h : JT X z a ta) : JT X z (.UnaryOp .Not a pos) (bNot ta) := ⟨fun B E tk => pt_imp (pt_not (h.run B E tk)) fun σ H Q ⟨W, cs, l, s, lr, w⟩ =>
  ⟨W, cs, l, s, lr, wp_imp (wp_bd.mp w) (fun b cs1 w1 W1 H1 le1 o1 s1 => w1 W1 H1 le1 o1 s1) fun _ _ h => h⟩⟩
theorem JW.pt (h : JW X z e ta) : JT X z e ta := ⟨fun B E tk => (h.run B E tk).pt⟩
theorem jw_or1 (h : JT X z a ta) : JW X z (.BoolOp .Or [a] pos) ta := ⟨fun B E tk => pw_or1 (h.run B E tk)⟩
theorem jw_and1 (h : JT X z a ta) : JW X z (.BoolOp .And [a] pos) ta := ⟨fun B E tk => pw_and1 (h.run B E tk)⟩
theorem jw_or {rest : List Expr} (ha : JT X z a ta) (hb : JW X z (.BoolOp .Or (b :: rest) pos) tb) : JW X z (.BoolOp .Or (a :: b :: rest) pos) (bOr ta tb) := ⟨fun B E tk => pw_imp (pw_or (ha.run B E tk) (hb.run B E tk)) fun σ H Q ⟨W, cs, l, s, lr, w⟩ => by
  refine ⟨W, cs, l, s, lr, wp_imp (wp_bd.mp w) (fun b cs1 w1 W1 H1 le1 o1 s1 => ?_) fun _ _ h => h⟩
  cases b with
  | true => exact iteT (w1 W1 H1 le1 o1 s1)
  | false => exact iteF ⟨W1, cs1, l, s1, lr.mono le1 o1, wp_imp w1 (fun b cs2 w2 W2 H2 le2 o2 s2 => w2 W2 H2 (le1.trans le2) (o2.trans o1) s2) fun _ _ h => h⟩⟩
theorem jw_and {rest : List Expr} (ha : JT X z a ta) (hb : JW X z (.BoolOp .And (b :: rest) pos) tb) : JW X z (.BoolOp .And (a :: b :: rest) pos) (bAnd ta tb) := ⟨fun B E tk => pw_imp (pw_and (ha.run B E tk) (hb.run B E tk)) fun σ H Q ⟨W, cs, l, s, lr, w⟩ => by
  refine ⟨W, cs, l, s, lr, wp_imp (wp_bd.mp w) (fun b cs1 w1 W1 H1 le1 o1 s1 => ?_) fun _ _ h => h⟩
  cases b with
  | false => exact iteF (w1 W1 H1 le1 o1 s1)
  | true => exact iteT ⟨W1, cs1, l, s1, lr.mono le1 o1, wp_imp w1 (fun b cs2 w2 W2 H2 le2 o2 s2 => w2 W2 H2 (le1.trans le2) (o2.trans o1) s2) fun _ _ h => h⟩⟩
theorem je_one {op} (h : JE X z a fa) : JE X z (.BoolOp op [a] pos) fa := ⟨fun B E tk => pe_one (h.run B E tk)⟩
/-- the test first, then one of two -/
theorem then_ {g1 g2 : XE} {B : Wd} {E : Exn → Loc → Cells → Prop} {σ : L2.St} {H : Hp} {Q : VK} (h : tE (sx X) z B (fun l => bd (bV fa l) fun b => if b = true then g1 l else g2 l) E σ H Q) :
    tE (sx X) z B fa E σ H fun x H1 => ∃ k, x = .bl k ∧ if k = true then tE (sx X) z B g1 E σ H1 Q else tE (sx X) z B g2 E σ H1 Q := by
  obtain ⟨W, cs, l, s, lr, w⟩ := h
  refine ⟨W, cs, l, s, lr, wp_imp (wp_bd.mp (wp_bd.mp w)) (fun d cs1 w1 W1 v1 H1 le1 o1 s1 r1 => ?_) fun _ _ h => h⟩
  obtain ⟨b, rfl, k⟩ := asB_ok w1
  cases r1
  refine ⟨b, rfl, ?_⟩
  cases b with
  | true => exact iteT ⟨W1, cs1, l, s1, lr.mono le1 o1, wp_imp k (fun d cs2 w2 W2 v H2 le2 o2 s2 r2 => w2 W2 v H2 (le1.trans le2) (o2.trans o1) s2 r2) fun _ _ h => h⟩
  | false => exact iteF ⟨W1, cs1, l, s1, lr.mono le1 o1, wp_imp k (fun d cs2 w2 W2 v H2 le2 o2 s2 r2 => w2 W2 v H2 (le1.trans le2) (o2.trans o1) s2 r2) fun _ _ h => h⟩
theorem val_ {d : D} {v : V} {B : Wd} {E : Exn → Loc → Cells → Prop} {σ : L2.St} {H : Hp} {Q : VK} (h : tE (sx X) z B (fun _ => rt d) E σ H Q) (r : ∀ W, Rep (sx X) W v d) : Q v H := by
  obtain ⟨W, cs, l, s, lr, w⟩ := h
  exact w W v H (Le.refl _) rfl s (r W)
theorem je_or {rest : List Expr} (ha : JE X z a fa) (hb : JE X z (.BoolOp .Or (b :: rest) pos) fb) : JE X z (.BoolOp .Or (a :: b :: rest) pos) (xOr fa fb) := ⟨fun B E tk => pe_imp (pe_or (ha.run B E tk) (hb.run B E tk)) fun σ H Q h => by
  obtain ⟨W, cs, l, s, lr, w⟩ := then_ h
  refine ⟨W, cs, l, s, lr, wp_imp w (fun d cs1 w1 W1 v1 H1 le1 o1 s1 r1 => ?_) fun _ _ h => h⟩
  obtain ⟨k, e, q⟩ := w1 W1 v1 H1 le1 o1 s1 r1
  refine ⟨k, e, ?_⟩
  cases k with
  | true => exact iteT (val_ (v := .bl true) q fun _ => .bl true)
  | false => exact q⟩
theorem je_and {rest : List Expr} (ha : JE X z a fa) (hb : JE X z (.BoolOp .And (b :: rest) pos) fb) : JE X z (.BoolOp .And (a :: b :: rest) pos) (xAnd fa fb) := ⟨fun B E tk => pe_imp (pe_and (ha.run B E tk) (hb.run B E tk)) fun σ H Q h => by
  obtain ⟨W, cs, l, s, lr, w⟩ := then_ h
  refine ⟨W, cs, l, s, lr, wp_imp w (fun d cs1 w1 W1 v1 H1 le1 o1 s1 r1 => ?_) fun _ _ h => h⟩
  obtain ⟨k, e, q⟩ := w1 W1 v1 H1 le1 o1 s1 r1
  refine ⟨k, e, ?_⟩
  cases k with
  | false => exact iteF (val_ (v := .bl false) q fun _ => .bl false)
  | true => exact q⟩
theorem je_not (ha : JE X z a fa) : JE X z (.UnaryOp .Not a pos) (xNot fa) := ⟨fun B E tk => pe_imp (pe_not (ha.run B E tk)) fun σ H Q ⟨W, cs, l, s, lr, w⟩ => by
  refine ⟨W, cs, l, s, lr, wp_imp (wp_bd.mp (wp_bd.mp w)) (fun d cs1 w1 W1 v1 H1 le1 o1 s1 r1 => ?_) fun _ _ h => h⟩
  obtain ⟨b, rfl, k⟩ := asB_ok w1
  cases r1
  exact ⟨b, rfl, k W1 (.bl (!b)) H1 le1 o1 s1 (.bl _)⟩⟩
theorem je_if (hc : JT X z c ta) (ha : JE X z a fa) (hb : JE X z b fb) : JE X z (.IfExp c a b pos) (xIf ta fa fb) := ⟨fun B E tk => pe_imp (pe_ifExp (hc.run B E tk) (ha.run B E tk) (hb.run B E tk)) fun σ H Q ⟨W, cs, l, s, lr, w⟩ => by
  refine ⟨W, cs, l, s, lr, wp_imp (wp_bd.mp w) (fun k cs1 w1 W1 H1 le1 o1 s1 => ?_) fun _ _ h => h⟩
  cases k with
  | true => exact iteT ⟨W1, cs1, l, s1, lr.mono le1 o1, wp_imp w1 (fun d cs2 w2 W2 v H2 le2 o2 s2 r2 => w2 W2 v H2 (le1.trans le2) (o2.trans o1) s2 r2) fun _ _ h => h⟩
  | false => exact iteF ⟨W1, cs1, l, s1, lr.mono le1 o1, wp_imp w1 (fun d cs2 w2 W2 v H2 le2 o2 s2 r2 => w2 W2 v H2 (le1.trans le2) (o2.trans o1) s2 r2) fun _ _ h => h⟩⟩
/-! argument lists -/
/-- .. of a written number -/
structure JL (X : Cx) (z : ZT) (es : List Expr) (f : XA) : Prop where
  ja : JA X z es f
  len : ∀ l cs ds cs', f l cs = .ok ds cs' → ds.length = es.length
theorem ja_nil : JA X z [] aNil := ⟨fun B E tk => pa_imp pa_nil fun σ H Q ⟨W, cs, l, s, lr, w⟩ => w W [] H (Le.refl _) rfl s .nil⟩
theorem ja_cons (ha : JE X z e fa) (hr : JA X z es f) (hs : starEach (e :: es) X.env = (false, eval e X.env) :: starEach es X.env := by rfl) : JA X z (e :: es) (aCons fa f) := ⟨fun B E tk => pa_imp (pa_cons (ha.run B E tk) (hr.run B E tk) hs) fun σ H Q ⟨W, cs, l, s, lr, w⟩ => by
  refine ⟨W, cs, l, s, lr, wp_imp (wp_bd.mp w) (fun d cs1 w1 W1 v1 H1 le1 o1 s1 r1 => ?_) fun _ _ h => h⟩
  refine ⟨W1, cs1, l, s1, lr.mono le1 o1, wp_imp (wp_bd.mp w1) (fun ds cs2 w2 W2 vs H2 le2 o2 s2 r2 => ?_) fun _ _ h => h⟩
  exact w2 W2 (v1 :: vs) H2 (le1.trans le2) (o2.trans o1) s2 (.cons (r1.mono le2) r2)⟩
theorem ja_star (ha : JE X z e fa) (hr : JA X z es f) (hs : starEach (.Starred e p :: es) X.env = (true, eval e X.env) :: starEach es X.env := by rfl) : JA X z (.Starred e p :: es) (aStar fa f) := ⟨fun B E tk => pa_imp (StX.pa_star (ha.run B E tk) (hr.run B E tk) hs) fun σ H Q ⟨W, cs, l, s, lr, w⟩ => by
  refine ⟨W, cs, l, s, lr, wp_imp (wp_bd.mp w) (fun d cs1 w1 W1 v1 H1 le1 o1 s1 r1 => ?_) fun _ _ h => h⟩
  obtain ⟨xs, hx, w2⟩ := wp_rd.mp (wp_bd.mp w1)
  obtain ⟨q, ys, ev, hq, rq⟩ := seq_ok s1 r1 hx
  refine ⟨q, ys, ev, hq.symm, ?_⟩
  refine ⟨W1, cs1, l, s1, lr.mono le1 o1, wp_imp (wp_bd.mp w2) (fun ds cs2 w2 W2 vs H2 le2 o2 s2 r2 => ?_) fun _ _ h => h⟩
  exact w2 W2 (ys ++ vs) H2 (le1.trans le2) (o2.trans o1) s2 ((rq.mono le2).append r2)⟩
theorem bd_ok {α β : Type} {m : EM α} {k : α → EM β} {cs cs' : Cells} {r : β} (h : bd m k cs = .ok r cs') : ∃ a cs1, m cs = .ok a cs1 ∧ k a cs1 = .ok r cs' := by
  unfold bd at h
  cases e : m cs with
  | ok a cs1 => rw [e] at h; exact ⟨a, cs1, rfl, h⟩
  | exc x cs1 => rw [e] at h; cases h
  | no => rw [e] at h; cases h
theorem jl_nil : JL X z [] aNil := ⟨ja_nil, fun l cs ds cs' h => by cases h; rfl⟩
theorem jl_cons (ha : JE X z e fa) (hr : JL X z es f) (hs : starEach (e :: es) X.env = (false, eval e X.env) :: starEach es X.env := by rfl) : JL X z (e :: es) (aCons fa f) := ⟨ja_cons ha hr.ja hs, fun l cs ds cs' h => by
  obtain ⟨d, cs1, h1, h2⟩ := bd_ok h
  obtain ⟨rs, cs2, h3, h4⟩ := bd_ok h2
  cases h4
  exact congrArg (· + 1) (hr.len _ _ _ _ h3)⟩
/-! displays -/
theorem wp_len {m : EM (List D)} {n : Nat} {cs : Cells} {Q : List D → Cells → Prop} {E : Exn → Cells → Prop} (h : wp m cs Q E) (k : ∀ ds cs', m cs = .ok ds cs' → ds.length = n) : wp m cs (fun ds cs' => ds.length = n ∧ Q ds cs') E := by
  unfold wp at h ⊢
  cases e : m cs with
  | ok a cs1 => rw [e] at h; exact ⟨k _ _ e, h⟩
  | exc x cs1 => rw [e] at h; exact h
  | no => rw [e] at h; exact h
theorem je_tup {k} (h : JL X z es f) (hl : es.length ≤ sizeLine := by decide +kernel) : JE X z (.Tuple es k pos) (xTup f) := ⟨fun B E tk => pe_imp (pe_tup (h.ja.run B E tk)) fun σ H Q ⟨W, cs, l, s, lr, w⟩ => by
  refine ⟨W, cs, l, s, lr, wp_imp (wp_len (wp_bd.mp w) (h.len l cs)) (fun ds cs1 ⟨ln, w1⟩ W1 vs H1 le1 o1 s1 r1 => ?_) fun _ _ h => h⟩
  exact ⟨by rw [r1.length, ln]; exact hl, fun q hq => w1 _ _ _ (le1.trans (s1.leNew hq)) o1 (s1.new hq) (.tup (st_of upd_same) (r1.mono (s1.leNew hq)))⟩⟩
theorem je_lst (h : JL X z es f) (hl : es.length ≤ sizeLine := by decide +kernel) : JE X z (.List es pos) (xLst f) := ⟨fun B E tk => pe_imp (pe_lst (h.ja.run B E tk)) fun σ H Q ⟨W, cs, l, s, lr, w⟩ => by
  refine ⟨W, cs, l, s, lr, wp_imp (wp_len (wp_bd.mp w) (h.len l cs)) (fun ds cs1 ⟨ln, w1⟩ W1 vs H1 le1 o1 s1 r1 => ?_) fun _ _ h => h⟩
  exact ⟨by rw [r1.length, ln]; exact hl, fun q hq => w1 _ _ _ (le1.trans (s1.leNew hq)) o1 (s1.new hq) (.lst upd_same (r1.mono (s1.leNew hq)))⟩⟩
theorem je_tupS {k} (h : JA X z es f) : JE X z (.Tuple es k pos) (xTupS f) := ⟨fun B E tk => pe_imp (pe_tup (h.run B E tk)) fun σ H Q ⟨W, cs, l, s, lr, w⟩ => by
  refine ⟨W, cs, l, s, lr, wp_imp (wp_bd.mp w) (fun ds cs1 w1 W1 vs H1 le1 o1 s1 r1 => ?_) fun _ _ h => h⟩
  obtain ⟨ln, w2⟩ := wp_fit (wp_bd.mp w1)
  exact ⟨by rw [r1.length]; exact ln, fun q hq => w2 _ _ _ (le1.trans (s1.leNew hq)) o1 (s1.new hq) (.tup (st_of upd_same) (r1.mono (s1.leNew hq)))⟩⟩
theorem je_lstS (h : JA X z es f) : JE X z (.List es pos) (xLstS f) := ⟨fun B E tk => pe_imp (pe_lst (h.run B E tk)) fun σ H Q ⟨W, cs, l, s, lr, w⟩ => by
  refine ⟨W, cs, l, s, lr, wp_imp (wp_bd.mp w) (fun ds cs1 w1 W1 vs H1 le1 o1 s1 r1 => ?_) fun _ _ h => h⟩
  obtain ⟨ln, w2⟩ := wp_fit (wp_bd.mp w1)
  exact ⟨by rw [r1.length]; exact ln, fun q hq => w2 _ _ _ (le1.trans (s1.leNew hq)) o1 (s1.new hq) (.lst upd_same (r1.mono (s1.leNew hq)))⟩⟩
end
end F

/-! operators over data -/
namespace F
open PySem PySem.Spec PyProof.Rows L2 Evl
section
variable {X : Cx}
theorem OpR.im {f : Value → Value → Sem Value} {r r' : R2} (h : OpR X f r) (k : ∀ x y H Q, r' x y H Q → r x y H Q) : OpR X f r' := fun pins s σ H x y v u Q I rx ry q => h pins s σ H x y v u Q I rx ry (k _ _ _ _ q)
theorem CallR.im {f : Value} {r r' : List V → Hp → VK → Prop} (h : CallR X f r) (k : ∀ xs H Q, r' xs H Q → r xs H Q) : CallR X f r' := fun pins s σ H xs us Q I rx q => h pins s σ H xs us Q I rx (k _ _ _ q)
theorem UnR.im {f : Value → Sem Value} {r r' : V → Hp → VK → Prop} (h : UnR X f r) (k : ∀ x H Q, r' x H Q → r x H Q) : UnR X f r' := fun pins s σ H x u Q I rx q => h pins s σ H x u Q I rx (k _ _ _ q)
theorem IxR.im {r r' : R2} (h : IxR X r) (k : ∀ x y H Q, r' x y H Q → r x y H Q) : IxR X r' := fun a b pins s σ H x y v u Q I rx ry q => h a b pins s σ H x y v u Q I rx ry (k _ _ _ _ q)
end
section
variable {Z : Sx} {W W' : Wd} {cs : Cells} {H : Hp} {v : V} {d : D}
theorem rep_int {i : Int} (r : Rep Z W v (.int i)) : v = .int i := by cases r; rfl
theorem rep_str {x : Str} (r : Rep Z W v (.str x)) : v = .str x ∧ x.length ≤ sizeLine := by cases r with | str h => exact ⟨rfl, h⟩
theorem rep_bl {b : Bool} (r : Rep Z W v (.bl b)) : v = .bl b := by cases r; rfl
theorem rep_non (r : Rep Z W v .non) : v = .non := by cases r; rfl
end
/-! ints -/
def i2 (C : Int → Int → Bool) (g : Int → Int → D) : Cells → D → D → Option D := fun _ x y => match x, y with
  | .int i, .int j => if C i j = true then some (g i j) else none
  | _, _ => none
theorem i2_ok {C : Int → Int → Bool} {g : Int → Int → D} {cs : Cells} {d e r : D} (h : i2 C g cs d e = some r) : ∃ i j, d = .int i ∧ e = .int j ∧ C i j = true ∧ r = g i j := by
  unfold i2 at h
  split at h
  · rename_i i j
    by_cases c : C i j = true
    · rw [if_pos c] at h
      cases h
      exact ⟨i, j, rfl, rfl, c, rfl⟩
    · rw [if_neg c] at h
      cases h
  · cases h
def always : Int → Int → Bool := fun _ _ => true
theorem r2_i {Z : Sx} {C : Int → Int → Bool} {P : Int → Int → Prop} {g : Int → Int → D} {g' : Int → Int → V} (hc : ∀ i j, C i j = true → P i j) (hg : ∀ W i j, Rep Z W (g' i j) (g i j)) : ∀ x y H Q, r2 Z (i2 C g) x y H Q → rI P g' x y H Q := fun x y H Q ⟨W, cs, d, e, r, s, rx, ry, h, k⟩ => by
  obtain ⟨i, j, rfl, rfl, c, rfl⟩ := i2_ok h
  cases rep_int rx
  cases rep_int ry
  exact ⟨i, j, rfl, rfl, hc i j c, k W _ H (Le.refl _) rfl s (hg W i j)⟩
theorem r2_i0 {Z : Sx} {g : Int → Int → D} {g' : Int → Int → V} (hg : ∀ W i j, Rep Z W (g' i j) (g i j)) : ∀ x y H Q, r2 Z (i2 always g) x y H Q → rI0 g' x y H Q := fun x y H Q ⟨W, cs, d, e, r, s, rx, ry, h, k⟩ => by
  obtain ⟨i, j, rfl, rfl, c, rfl⟩ := i2_ok h
  cases rep_int rx
  cases rep_int ry
  exact ⟨i, j, rfl, rfl, k W _ H (Le.refl _) rfl s (hg W i j)⟩
def cMul : Int → Int → Bool := fun i j => (decide (-18446744073709551616 < i) && decide (i < 18446744073709551616)) || (decide (-18446744073709551616 < j) && decide (j < 18446744073709551616))
def cMod : Int → Int → Bool := fun _ j => decide (0 < j)
def cDiv : Int → Int → Bool := fun _ j => decide (0 < j) && decide (j.natAbs.log2 < 9000)
def cPow : Int → Int → Bool := fun i j => decide (0 ≤ j) && (decide (j ≤ 1000000) && decide (i.natAbs < 18446744073709551616))
def dSub := i2 always fun i j => .int (i - j)
def dMul := i2 cMul fun i j => .int (i * j)
def dMod := i2 cMod fun i j => .int (i % j)
def dDiv := i2 cDiv fun i j => .int (i / j)
def dPow := i2 cPow fun i j => .int (i ^ j.toNat)
def dLt := i2 always fun i j => .bl (decide (i < j))
def dLe := i2 always fun i j => .bl (decide (i ≤ j))
def dGt := i2 always fun i j => .bl (decide (j < i))
def dGe := i2 always fun i j => .bl (decide (j ≤ i))
section
variable {X : Cx}
theorem od_sub : OpR X (binaryOp .Sub) (r2 (sx X) dSub) := OpR.im op_sub (r2_i0 fun _ _ _ => .int _)
theorem od_mul : OpR X (binaryOp .Mult) (r2 (sx X) dMul) := OpR.im op_mul (r2_i (fun i j h => by
  unfold cMul at h
  simp only [Bool.or_eq_true, Bool.and_eq_true, decide_eq_true_eq] at h
  exact h) fun _ _ _ => .int _)
theorem od_mod : OpR X (binaryOp .Mod) (r2 (sx X) dMod) := OpR.im op_mod (r2_i (fun i j h => of_decide_eq_true h) fun _ _ _ => .int _)
theorem od_div : OpR X (binaryOp .FloorDiv) (r2 (sx X) dDiv) := OpR.im op_fdivW (r2_i (fun i j h => by
  unfold cDiv at h
  simp only [Bool.and_eq_true, decide_eq_true_eq] at h
  exact h) fun _ _ _ => .int _)
theorem od_pow : OpR X (binaryOp .Pow) (r2 (sx X) dPow) := OpR.im op_pow (r2_i (fun i j h => by
  unfold cPow at h
  simp only [Bool.and_eq_true, decide_eq_true_eq] at h
  exact h) fun _ _ _ => .int _)
theorem od_lt : OpR X (compareOp .Lt) (r2 (sx X) dLt) := OpR.im op_lt (r2_i0 fun _ _ _ => .bl _)
theorem od_le : OpR X (compareOp .LtE) (r2 (sx X) dLe) := OpR.im op_le (r2_i0 fun _ _ _ => .bl _)
theorem od_gt : OpR X (compareOp .Gt) (r2 (sx X) dGt) := OpR.im op_gt (r2_i0 fun _ _ _ => .bl _)
theorem od_ge : OpR X (compareOp .GtE) (r2 (sx X) dGe) := OpR.im op_ge (r2_i0 fun _ _ _ => .bl _)
end
def dNeg : Cells → D → Option D := fun _ x => match x with
  | .int i => some (.int (-i))
  | _ => none
theorem ud_neg {X : Cx} : UnR X (unaryOp .USub) (r1 (sx X) dNeg) := UnR.im un_neg fun x H Q ⟨W, cs, d, r, s, rx, h, k⟩ => by
  unfold dNeg at h
  split at h
  · rename_i i
    cases h
    cases rep_int rx
    exact ⟨i, rfl, k W _ H (Le.refl _) rfl s (.int _)⟩
  · cases h
/-! + -/
def lsOf (cs : Cells) : D → Option (List D)
  | .lst xs => some xs
  | .cel n => celL cs n
  | _ => none
theorem ls_ok {Z : Sx} {W : Wd} {cs : Cells} {H : Hp} {v : V} {d : D} {ds : List D} (s : S Z W cs H) (r : Rep Z W v d) (e : lsOf cs d = some ds) : ∃ a xs, v = .ref a ∧ H a = some (.lst xs) ∧ RepA Z W xs ds := by
  cases r with
  | lst h r => cases e; exact ⟨_, _, rfl, s.g _ _ h, r⟩
  | cel h =>
    obtain ⟨xs, h1, h2, _⟩ := celL_ok s h e
    exact ⟨_, xs, rfl, h1, h2⟩
  | _ => cases e
def fitB (n : Nat) : Bool := decide (n ≤ 1000000)
theorem fitB_ok {n : Nat} (h : fitB n = true) : n ≤ sizeLine := Nat.le_trans (of_decide_eq_true h) (by decide)
def catL (cs : Cells) (x y : D) : Option D := match lsOf cs x, lsOf cs y with
  | some xs, some ys => if fitB (xs.length + ys.length) = true then some (.lst (xs ++ ys)) else none
  | _, _ => none
def dAdd (cs : Cells) (x y : D) : Option D := match x, y with
  | .int i, .int j => some (.int (i + j))
  | .str a, .str b => if fitB (a.length + b.length) = true then some (.str (a ++ b)) else none
  | .tup xs, .tup ys => if fitB (xs.length + ys.length) = true then some (.tup (xs ++ ys)) else none
  | x, y => catL cs x y
theorem str_app_len (a b : Str) : (a ++ b).length = a.length + b.length := by
  show (a.cps ++ b.cps).size = _
  exact Array.size_append
theorem od_add {X : Cx} : OpR X (binaryOp .Add) (r2 (sx X) dAdd) := OpR.im E.op_addU fun x y H Q ⟨W, cs, d, e, r, s, rx, ry, h, k⟩ => by
  unfold dAdd at h
  split at h
  · cases h
    cases rep_int rx
    cases rep_int ry
    exact E.g_addI (k W _ H (Le.refl _) rfl s (.int _))
  · rename_i a b
    obtain ⟨rfl, _⟩ := rep_str rx
    obtain ⟨rfl, _⟩ := rep_str ry
    split at h
    · rename_i c
      cases h
      exact E.g_addS (fitB_ok c) (k W _ H (Le.refl _) rfl s (.str (by rw [str_app_len]; exact fitB_ok c)))
    · cases h
  · rename_i xs ys
    split at h
    · rename_i c
      cases h
      cases rx with
      | tup h1 r1 =>
        cases ry with
        | tup h2 r2 =>
          refine Or.inr (Or.inr (Or.inr ⟨_, _, _, _, rfl, rfl, ex_t s.g h1, ex_t s.g h2, by rw [r1.length, r2.length]; exact fitB_ok c, fun n1 => ?_, fun _ n2 => ?_, fun _ _ q hq => ?_⟩))
          · subst n1
            cases r1
            exact k W _ H (Le.refl _) rfl s (.tup h2 r2)
          · subst n2
            cases r2
            rw [List.append_nil] at k
            exact k W _ H (Le.refl _) rfl s (.tup h1 r1)
          · exact k _ _ _ (s.leNew hq) rfl (s.new hq) (.tup (st_of upd_same) ((r1.append r2).mono (s.leNew hq)))
    · cases h
  · unfold catL at h
    split at h
    · rename_i xs ys e1 e2
      split at h
      · rename_i c
        cases h
        obtain ⟨a, us, rfl, ha, ra⟩ := ls_ok s rx e1
        obtain ⟨b, ws, rfl, hb, rb⟩ := ls_ok s ry e2
        refine E.g_addL ha hb (by rw [ra.length, rb.length]; exact fitB_ok c) fun q hq => ?_
        exact k _ _ _ (s.leNew hq) rfl (s.new hq) (.lst upd_same ((ra.append rb).mono (s.leNew hq)))
      · cases h
    · cases h
/-! == of data -/
mutual
def toP0 : D → Option PyData
  | .non => some .none
  | .bl b => some (.bool b)
  | .int i => some (.int i)
  | .str x => some (.str x)
  | .tup xs => (toPs xs).map .tuple
  | .lst xs => (toPs xs).map .list
  | .wls xs => (toPs xs).map .list
  | _ => none
def toPs : List D → Option (List PyData)
  | [] => some []
  | d :: ds => match toP0 d, toPs ds with
    | some p, some ps => some (p :: ps)
    | _, _ => none
end
def toP (cs : Cells) : D → Option PyData
  | .cel n => match celL cs n with
    | some xs => (toPs xs).map .list
    | none => none
  | d => toP0 d
section
variable {Z : Sx} {W : Wd} {cs : Cells} {H : Hp}
mutual
theorem dp_of (e : Ex W.G H) : ∀ (d : D) {v : V} {p : PyData}, Rep Z W v d → toP0 d = some p → Dp Z.K H v p
  | .non, _, _, r, h => by cases r; cases h; exact .non
  | .bl b, _, _, r, h => by cases r; cases h; exact .bl b
  | .int i, _, _, r, h => by cases r; cases h; exact .int i
  | .str x, _, _, r, h => by cases r; cases h; exact .str x
  | .tup xs, _, _, r, h => by
    cases r with
    | tup h1 r1 =>
      unfold toP0 at h
      cases q : toPs xs with
      | none => rw [q] at h; cases h
      | some ps => rw [q] at h; cases h; exact .tup (ex_t e h1) (dps_of e xs r1 q)
  | .lst xs, _, _, r, h => by
    cases r with
    | lst h1 r1 =>
      unfold toP0 at h
      cases q : toPs xs with
      | none => rw [q] at h; cases h
      | some ps => rw [q] at h; cases h; exact .lst (sq_of (e _ _ h1)) (dps_of e xs r1 q)
  | .wls xs, _, _, r, h => by
    cases r with
    | wls h1 r1 =>
      unfold toP0 at h
      cases q : toPs xs with
      | none => rw [q] at h; cases h
      | some ps => rw [q] at h; cases h; exact .lst (ex_l e h1) (dps_of e xs r1 q)
  | .ins _ _, _, _, _, h => by unfold toP0 at h; cases h
  | .cel _, _, _, _, h => by unfold toP0 at h; cases h
  | .cls _, _, _, _, h => by unfold toP0 at h; cases h
  | .ty _, _, _, _, h => by unfold toP0 at h; cases h
theorem dps_of (e : Ex W.G H) : ∀ (ds : List D) {vs : List V} {ps : List PyData}, RepA Z W vs ds → toPs ds = some ps → DpAll Z.K H vs ps
  | [], _, _, r, h => by cases r; unfold toPs at h; cases h; exact .nil
  | d :: ds, _, _, r, h => by
    cases r with
    | cons r1 r2 =>
      unfold toPs at h
      cases q : toP0 d with
      | none => rw [q] at h; cases h
      | some p =>
        cases q2 : toPs ds with
        | none => rw [q, q2] at h; cases h
        | some ps => rw [q, q2] at h; cases h; exact .cons (dp_of e d r1 q) (dps_of e ds r2 q2)
end
theorem dp_ok (s : S Z W cs H) {d : D} {v : V} {p : PyData} (r : Rep Z W v d) (h : toP cs d = some p) : Dp Z.K H v p := by
  unfold toP at h
  split at h
  · rename_i n
    cases q : celL cs n with
    | none => rw [q] at h; cases h
    | some xs =>
      rw [q] at h
      cases r with
      | cel hi =>
        obtain ⟨us, h1, h2, _⟩ := celL_ok s hi q
        cases q2 : toPs xs with
        | none => dsimp only at h; rw [q2] at h; cases h
        | some ps => dsimp only at h; rw [q2] at h; cases h; exact .lst (sq_of h1) (dps_of s.g xs h2 q2)
  · exact dp_of s.g _ r h
end
def eqP (cs : Cells) (x y : D) : Option Bool := match toP cs x, toP cs y with
  | some p, some q => if (SeqAt.shaped p && SeqAt.shaped q) = true then some (PyData.eqv p q) else none
  | _, _ => none
def eqB (cs : Cells) (x y : D) : Option Bool := match x, y with
  | .str a, .str b => some (decide (a = b))
  | .int a, .int b => some (decide (a = b))
  | .bl a, .bl b => some (decide (a = b))
  | .non, .non => some true
  | .non, .str _ => some false
  | .str _, .non => some false
  | .non, .int _ => some false
  | .int _, .non => some false
  | .int _, .str _ => some false
  | .str _, .int _ => some false
  | x, y => eqP cs x y
def dEq (cs : Cells) (x y : D) : Option D := (eqB cs x y).map .bl
def dNe (cs : Cells) (x y : D) : Option D := (eqB cs x y).map fun b => .bl (!b)
theorem eqB_ok {Z : Sx} {W : Wd} {cs : Cells} {H : Hp} {x y : V} {d e : D} {b : Bool} (s : S Z W cs H) (rx : Rep Z W x d) (ry : Rep Z W y e) (h : eqB cs d e = some b) :
    (scal x y = true ∧ b = decide (x = y)) ∨ ∃ p q, Dp Z.K H x p ∧ Dp Z.K H y q ∧ SeqAt.shaped p = true ∧ SeqAt.shaped q = true ∧ b = PyData.eqv p q := by
  unfold eqB at h
  split at h
  case h_11 =>
    refine .inr ?_
    unfold eqP at h
    split at h
    · rename_i p q e1 e2
      split at h
      · rename_i c
        cases h
        obtain ⟨c1, c2⟩ := Bool.and_eq_true_iff.mp c
        exact ⟨p, q, dp_ok s rx e1, dp_ok s ry e2, c1, c2, rfl⟩
      · cases h
    · cases h
  all_goals (refine .inl ?_; cases h; cases rx; cases ry; refine ⟨rfl, ?_⟩; simp)
section
variable {X : Cx}
theorem od_eq (hu : X.A.units + 64 < cLine) : OpR X (compareOp .Eq) (r2 (sx X) dEq) := OpR.im (E.op_eqU hu) fun x y H Q ⟨W, cs, d, e, r, s, rx, ry, h, k⟩ => by
  unfold dEq at h
  cases q : eqB cs d e with
  | none => rw [q] at h; cases h
  | some b =>
    rw [q] at h
    cases h
    have kk := k W (.bl b) H (Le.refl _) rfl s (.bl b)
    rcases eqB_ok s rx ry q with ⟨h1, rfl⟩ | ⟨p, q', h1, h2, h3, h4, rfl⟩
    · exact Or.inl ⟨h1, kk⟩
    · exact Or.inr ⟨p, q', h1, h2, h3, h4, kk⟩
theorem od_ne (hu : X.A.units + 64 < cLine) : OpR X (compareOp .NotEq) (r2 (sx X) dNe) := OpR.im (E.op_neU hu) fun x y H Q ⟨W, cs, d, e, r, s, rx, ry, h, k⟩ => by
  unfold dNe at h
  cases q : eqB cs d e with
  | none => rw [q] at h; cases h
  | some b =>
    rw [q] at h
    cases h
    have kk := k W (.bl (!b)) H (Le.refl _) rfl s (.bl (!b))
    rcases eqB_ok s rx ry q with ⟨h1, rfl⟩ | ⟨p, q', h1, h2, h3, h4, rfl⟩
    · exact Or.inl ⟨h1, kk⟩
    · exact Or.inr ⟨p, q', h1, h2, h3, h4, kk⟩
end
/-! is None -/
def isNon : D → Bool
  | .non => true
  | _ => false
def dIsN (_ : Cells) (x y : D) : Option D := match y with
  | .non => some (.bl (isNon x))
  | _ => none
def dNotN (_ : Cells) (x y : D) : Option D := match y with
  | .non => some (.bl (!isNon x))
  | _ => none
theorem isNon_ok {Z : Sx} {W : Wd} {x : V} {d : D} (r : Rep Z W x d) : isNon d = decide (x = .non) := by
  cases r <;> first | rfl | (symm; exact decide_eq_false fun z => nomatch z)
section
variable {X : Cx}
theorem od_isN : OpR X (compareOp .Is) (r2 (sx X) dIsN) := OpR.im op_isN fun x y H Q ⟨W, cs, d, e, r, s, rx, ry, h, k⟩ => by
  unfold dIsN at h
  split at h
  · cases h
    cases ry
    have kk := k W (.bl (isNon d)) H (Le.refl _) rfl s (.bl _)
    rw [isNon_ok rx] at kk
    exact ⟨rfl, kk⟩
  · cases h
theorem od_notN : OpR X (compareOp .IsNot) (r2 (sx X) dNotN) := OpR.im op_notN fun x y H Q ⟨W, cs, d, e, r, s, rx, ry, h, k⟩ => by
  unfold dNotN at h
  split at h
  · cases h
    cases ry
    have kk := k W (.bl (!isNon d)) H (Le.refl _) rfl s (.bl _)
    rw [isNon_ok rx] at kk
    exact ⟨rfl, kk⟩
  · cases h
end
end F

/-! built-ins over data -/
namespace F
open PySem PySem.Spec PyProof.Rows L2 Evl
/-! len, index -/
def dLen (cs : Cells) : List D → Option D
  | [.str x] => some (.int x.length)
  | [d] => (seqOf cs d).map fun xs => .int xs.length
  | _ => none
theorem cd_len {X : Cx} : CallR X (.builtin "len") (rN (sx X) dLen) := CallR.im call_len fun xs H Q ⟨W, cs, ds, r, s, rx, h, k⟩ => by
  unfold dLen at h
  split at h
  · cases h
    cases rx with
    | cons r1 r2 =>
      cases r2
      obtain ⟨rfl, hl⟩ := rep_str r1
      exact ⟨_, _, rfl, ⟨hl, rfl⟩, k W _ H (Le.refl _) rfl s (.int _)⟩
  · rename_i d _
    cases rx with
    | cons r1 r2 =>
      cases r2
      cases q : seqOf cs d with
      | none => rw [q] at h; cases h
      | some ys =>
        rw [q] at h
        cases h
        obtain ⟨a, us, rfl, hs, ra⟩ := seq_ok s r1 q
        refine ⟨_, us.length, rfl, ?_, k W _ H (Le.refl _) rfl s (by rw [ra.length]; exact .int _)⟩
        rcases hs with hs | hs
        · exact .inl ⟨us, hs, rfl⟩
        · exact .inr ⟨us, hs, rfl⟩
  · cases h
theorem atI_map {α β : Type} {R : α → β → Prop} {xs : List α} {ys : List β} (hl : xs.length = ys.length) (hg : ∀ (n : Nat) (y : β), ys[n]? = some y → ∃ x, xs[n]? = some x ∧ R x y) {i : Int} {y : β} (h : atI ys i = some y) : ∃ x, atI xs i = some x ∧ R x y := by
  unfold atI at h ⊢
  rw [hl]
  cases q : ixN ys.length i with
  | none => rw [q] at h; cases h
  | some j =>
    rw [q] at h
    exact hg j y h
def dIx (cs : Cells) (x y : D) : Option D := match x, y with
  | .str z, .int i => (atI z.cps.toList i).map fun c => .str ⟨#[c]⟩
  | d, .int i => match seqOf cs d with
    | some xs => atI xs i
    | none => none
  | _, _ => none
theorem xd_ix {X : Cx} : IxR X (r2 (sx X) dIx) := IxR.im ix_seq fun x y H Q ⟨W, cs, d, e, r, s, rx, ry, h, k⟩ => by
  unfold dIx at h
  split at h
  · rename_i z i
    cases rep_int ry
    obtain ⟨rfl, hl⟩ := rep_str rx
    cases q : atI z.cps.toList i with
    | none => rw [q] at h; cases h
    | some c =>
      rw [q] at h
      cases h
      exact E.g_ixS hl q (k W _ H (Le.refl _) rfl s (.str (show (1 : Nat) ≤ sizeLine by decide)))
  · cases rep_int ry
    split at h
    · rename_i ys q
      obtain ⟨a, us, rfl, hs, ra⟩ := seq_ok s rx q
      obtain ⟨u, hu, ru⟩ := atI_map (R := Rep (sx X) W) ra.length (fun n y hy => ra.get hy) h
      have kk := k W u H (Le.refl _) rfl s ru
      rcases hs with hs | hs
      · exact E.g_ixL hs hu kk
      · exact E.g_ixT hs hu kk
    · cases h
  · cases h
/-! in -/
def flatD : D → Bool
  | .non => true
  | .bl _ => true
  | .int _ => true
  | .str _ => true
  | _ => false
def eqF : D → D → Bool
  | .non, .non => true
  | .bl a, .bl b => a == b
  | .bl a, .int b => (if a then 1 else 0) == b
  | .int a, .bl b => a == (if b then 1 else 0)
  | .int a, .int b => a == b
  | .str a, .str b => a == b
  | _, _ => false
section
variable {Z : Sx} {W : Wd}
theorem flat_ok {v : V} {d : D} (r : Rep Z W v d) (h : flatD d = true) : flatV v = true := by
  cases r <;> first | rfl | cases h
theorem eqF_ok {v u : V} {d e : D} (r : Rep Z W v d) (q : Rep Z W u e) (h : flatD d = true) (h' : flatD e = true) : eqV v u = eqF d e := by
  cases r <;> first | (cases h; done) | (cases q <;> first | rfl | (cases h'; done))
theorem flats_ok : ∀ {vs : List V} {ds : List D}, RepA Z W vs ds → ds.all flatD = true → vs.all flatV = true
  | _, _, .nil, _ => rfl
  | _, _, .cons r t, h => by
    rw [List.all_cons, Bool.and_eq_true] at h ⊢
    exact ⟨flat_ok r h.1, flats_ok t h.2⟩
theorem inF_ok {u : V} {e : D} (q : Rep Z W u e) (h' : flatD e = true) : ∀ {vs : List V} {ds : List D}, RepA Z W vs ds → ds.all flatD = true → (vs.any fun y => eqV y u) = ds.any fun y => eqF y e
  | _, _, .nil, _ => rfl
  | _, _, .cons r t, h => by
    rw [List.all_cons, Bool.and_eq_true] at h
    rw [List.any_cons, List.any_cons, eqF_ok r q h.1 h', inF_ok q h' t h.2]
end
def inB (cs : Cells) (x y : D) : Option Bool := match x, y with
  | .str a, .str b => match a.cps.toList with
    | [c] => some (decide (c ∈ b.cps.toList))
    | _ => none
  | x, y => match seqOf cs y with
    | some ys => if (flatD x && ys.all flatD) = true then some (ys.any fun y => eqF y x) else none
    | none => none
theorem inB_ok {Z : Sx} {W : Wd} {cs : Cells} {H : Hp} {x y : V} {d e : D} {b : Bool} (s : S Z W cs H) (rx : Rep Z W x d) (ry : Rep Z W y e) (h : inB cs d e = some b) :
    (∃ (c : Nat) (w : Str), x = .str ⟨#[c]⟩ ∧ y = .str w ∧ b = decide (c ∈ w.cps.toList)) ∨ ∃ p xs, y = .ref p ∧ (SqL Z.K H p xs ∨ SqT Z.K H p xs) ∧ flatV x = true ∧ xs.all flatV = true ∧ b = inV x xs := by
  unfold inB at h
  split at h
  · rename_i a w
    split at h
    · rename_i c hc
      cases h
      obtain ⟨rfl, _⟩ := rep_str rx
      obtain ⟨rfl, _⟩ := rep_str ry
      obtain ⟨⟨l⟩⟩ := a
      have hc' : l = [c] := hc
      subst hc'
      exact .inl ⟨c, w, rfl, rfl, rfl⟩
    · cases h
  · split at h
    · rename_i ys q
      split at h
      · rename_i c
        cases h
        obtain ⟨c1, c2⟩ := Bool.and_eq_true_iff.mp c
        obtain ⟨a, us, rfl, hs, ra⟩ := seq_ok s ry q
        exact .inr ⟨a, us, rfl, hs, flat_ok rx c1, flats_ok ra c2, (inF_ok rx c1 ra c2).symm⟩
      · cases h
    · cases h
def dIn (cs : Cells) (x y : D) : Option D := (inB cs x y).map .bl
def dNotIn (cs : Cells) (x y : D) : Option D := (inB cs x y).map fun b => .bl (!b)
section
variable {X : Cx}
theorem od_in : OpR X (compareOp .In) (r2 (sx X) dIn) := OpR.im (OpR.or op_in_sign op_in_seq) fun x y H Q ⟨W, cs, d, e, r, s, rx, ry, h, k⟩ => by
  unfold dIn at h
  cases q : inB cs d e with
  | none => rw [q] at h; cases h
  | some b =>
    rw [q] at h
    cases h
    have kk := k W (.bl b) H (Le.refl _) rfl s (.bl b)
    rcases inB_ok s rx ry q with ⟨c, w, h1, h2, rfl⟩ | ⟨p, xs, h1, h2, h3, h4, rfl⟩
    · exact Or.inl ⟨c, w, h1, h2, kk⟩
    · exact Or.inr ⟨p, xs, h1, h2, h3, h4, kk⟩
theorem od_notIn : OpR X (compareOp .NotIn) (r2 (sx X) dNotIn) := OpR.im (OpR.or op_notIn_sign op_notIn_seq) fun x y H Q ⟨W, cs, d, e, r, s, rx, ry, h, k⟩ => by
  unfold dNotIn at h
  cases q : inB cs d e with
  | none => rw [q] at h; cases h
  | some b =>
    rw [q] at h
    cases h
    have kk := k W (.bl (!b)) H (Le.refl _) rfl s (.bl (!b))
    rcases inB_ok s rx ry q with ⟨c, w, h1, h2, rfl⟩ | ⟨p, xs, h1, h2, h3, h4, rfl⟩
    · exact Or.inl ⟨c, w, h1, h2, kk⟩
    · exact Or.inr ⟨p, xs, h1, h2, h3, h4, kk⟩
end
/-! list(x), tuple(x), int, abs, min, max, all, any -/
def dList (cs : Cells) : List D → Option D
  | [d] => (seqOf cs d).map .lst
  | _ => none
def dTuple (cs : Cells) : List D → Option D
  | [d] => (seqOf cs d).map .tup
  | _ => none
def dInt (_ : Cells) : List D → Option D
  | [.int i] => some (.int i)
  | [.bl b] => some (.int (if b = true then 1 else 0))
  | _ => none
def dAbs (_ : Cells) : List D → Option D
  | [.int i] => some (.int (if i < 0 then -i else i))
  | _ => none
def dMin (_ : Cells) : List D → Option D
  | [.int i, .int j] => some (.int (if j < i then j else i))
  | _ => none
def dMax (_ : Cells) : List D → Option D
  | [.int i, .int j] => some (.int (if j > i then j else i))
  | _ => none
def blsOf : List D → Option (List Bool)
  | [] => some []
  | .bl b :: r => (blsOf r).map (b :: ·)
  | _ => none
def lsR (cs : Cells) : D → Option (List D)
  | .lst xs => some xs
  | .wls xs => some xs
  | .cel n => celL cs n
  | _ => none
def dAll (cs : Cells) : List D → Option D
  | [d] => match lsR cs d with
    | some xs => (blsOf xs).map fun bs => .bl (bs.all id)
    | none => none
  | _ => none
def dAny (cs : Cells) : List D → Option D
  | [d] => match lsR cs d with
    | some xs => (blsOf xs).map fun bs => .bl (bs.any id)
    | none => none
  | _ => none
section
variable {Z : Sx} {W : Wd} {cs : Cells} {H : Hp} {v : V} {d : D} {ds : List D}
theorem lsR_ok (s : S Z W cs H) (r : Rep Z W v d) (e : lsR cs d = some ds) : ∃ a xs, v = .ref a ∧ SqL Z.K H a xs ∧ RepA Z W xs ds := by
  cases r with
  | lst h r => cases e; exact ⟨_, _, rfl, sq_of (s.g _ _ h), r⟩
  | wls h r => cases e; exact ⟨_, _, rfl, ex_l s.g h, r⟩
  | cel h =>
    obtain ⟨xs, h1, h2, _⟩ := celL_ok s h e
    exact ⟨_, xs, rfl, sq_of h1, h2⟩
  | _ => cases e
theorem bls_ok : ∀ {ds : List D} {vs : List V} {bs : List Bool}, RepA Z W vs ds → blsOf ds = some bs → vs = bs.map V.bl
  | [], _, _, r, h => by cases r; cases h; rfl
  | d :: ds, _, _, r, h => by
    cases r with
    | cons r1 r2 =>
      unfold blsOf at h
      split at h
      · rename_i e; cases e
      · rename_i b rs e
        cases e
        cases q : blsOf ds with
        | none => rw [q] at h; cases h
        | some cs =>
          rw [q] at h
          cases h
          cases rep_bl r1
          rw [List.map_cons, bls_ok r2 q]
      · cases h
end
section
variable {X : Cx}
theorem cd_list : CallR X (.type "list") (rN (sx X) dList) := CallR.im call_list_of fun xs H Q ⟨W, cs, ds, r, s, rx, h, k⟩ => by
  unfold dList at h
  split at h
  · rename_i d
    cases rx with
    | cons r1 r2 =>
      cases r2
      cases q : seqOf cs d with
      | none => rw [q] at h; cases h
      | some ys =>
        rw [q] at h
        cases h
        obtain ⟨a, us, rfl, hs, ra⟩ := seq_ok s r1 q
        exact ⟨a, us, rfl, hs, fun p hp => k _ _ _ (s.leNew hp) rfl (s.new hp) (.lst upd_same (ra.mono (s.leNew hp)))⟩
  · cases h
theorem cd_tuple : CallR X (.type "tuple") (rN (sx X) dTuple) := CallR.im call_tuple_of fun xs H Q ⟨W, cs, ds, r, s, rx, h, k⟩ => by
  unfold dTuple at h
  split at h
  · rename_i d
    cases rx with
    | cons r1 r2 =>
      cases r2
      cases q : seqOf cs d with
      | none => rw [q] at h; cases h
      | some ys =>
        rw [q] at h
        cases h
        cases r1 with
        | tup h1 r1 => cases q; exact ⟨_, _, rfl, .inr ⟨ex_t s.g h1, k W _ H (Le.refl _) rfl s (.tup h1 r1)⟩⟩
        | lst h1 r1 => cases q; exact ⟨_, _, rfl, .inl ⟨sq_of (s.g _ _ h1), fun p hp => k _ _ _ (s.leNew hp) rfl (s.new hp) (.tup (st_of upd_same) (r1.mono (s.leNew hp)))⟩⟩
        | wls h1 r1 => cases q; exact ⟨_, _, rfl, .inl ⟨ex_l s.g h1, fun p hp => k _ _ _ (s.leNew hp) rfl (s.new hp) (.tup (st_of upd_same) (r1.mono (s.leNew hp)))⟩⟩
        | cel hi =>
          obtain ⟨us, h1, r1, _⟩ := celL_ok s hi q
          exact ⟨_, _, rfl, .inl ⟨sq_of h1, fun p hp => k _ _ _ (s.leNew hp) rfl (s.new hp) (.tup (st_of upd_same) (r1.mono (s.leNew hp)))⟩⟩
        | _ => cases q
  · cases h
theorem cd_int : CallR X (.type "int") (rN (sx X) dInt) := CallR.im E.call_int fun xs H Q ⟨W, cs, ds, r, s, rx, h, k⟩ => by
  unfold dInt at h
  split at h
  · cases h
    cases rx with
    | cons r1 r2 => cases r2; cases rep_int r1; exact E.g_int (k W _ H (Le.refl _) rfl s (.int _))
  · cases h
    cases rx with
    | cons r1 r2 => cases r2; cases rep_bl r1; exact E.g_intB (k W _ H (Le.refl _) rfl s (.int _))
  · cases h
theorem cd_abs : CallR X (.builtin "abs") (rN (sx X) dAbs) := CallR.im E.call_absR fun xs H Q ⟨W, cs, ds, r, s, rx, h, k⟩ => by
  unfold dAbs at h
  split at h
  · cases h
    cases rx with
    | cons r1 r2 => cases r2; cases rep_int r1; exact E.g_abs (k W _ H (Le.refl _) rfl s (.int _))
  · cases h
theorem cd_min (hc : X.calm = true) : CallR X (.builtin "min") (rN (sx X) dMin) := CallR.im (E.call_min hc) fun xs H Q ⟨W, cs, ds, r, s, rx, h, k⟩ => by
  unfold dMin at h
  split at h
  · cases h
    cases rx with
    | cons r1 r2 => cases r2 with | cons r2 r3 => cases r3; cases rep_int r1; cases rep_int r2; exact E.g_min (k W _ H (Le.refl _) rfl s (.int _))
  · cases h
theorem cd_max (hc : X.calm = true) : CallR X (.builtin "max") (rN (sx X) dMax) := CallR.im (E.call_max hc) fun xs H Q ⟨W, cs, ds, r, s, rx, h, k⟩ => by
  unfold dMax at h
  split at h
  · cases h
    cases rx with
    | cons r1 r2 => cases r2 with | cons r2 r3 => cases r3; cases rep_int r1; cases rep_int r2; exact E.g_max (k W _ H (Le.refl _) rfl s (.int _))
  · cases h
theorem cd_all (hc : X.calm = true) : CallR X (.builtin "all") (rN (sx X) dAll) := CallR.im (cr_all hc) fun xs H Q ⟨W, cs, ds, r, s, rx, h, k⟩ => by
  unfold dAll at h
  split at h
  · rename_i d
    cases rx with
    | cons r1 r2 =>
      cases r2
      split at h
      · rename_i ys q
        cases qb : blsOf ys with
        | none => rw [qb] at h; cases h
        | some bs =>
          rw [qb] at h
          cases h
          obtain ⟨a, us, rfl, hs, ra⟩ := lsR_ok s r1 q
          have eb := bls_ok ra qb
          subst eb
          exact ⟨a, bs, rfl, hs, k W _ H (Le.refl _) rfl s (.bl _)⟩
      · cases h
  · cases h
theorem cd_any (hc : X.calm = true) : CallR X (.builtin "any") (rN (sx X) dAny) := CallR.im (cr_any hc) fun xs H Q ⟨W, cs, ds, r, s, rx, h, k⟩ => by
  unfold dAny at h
  split at h
  · rename_i d
    cases rx with
    | cons r1 r2 =>
      cases r2
      split at h
      · rename_i ys q
        cases qb : blsOf ys with
        | none => rw [qb] at h; cases h
        | some bs =>
          rw [qb] at h
          cases h
          obtain ⟨a, us, rfl, hs, ra⟩ := lsR_ok s r1 q
          have eb := bls_ok ra qb
          subst eb
          exact ⟨a, bs, rfl, hs, k W _ H (Le.refl _) rfl s (.bl _)⟩
      · cases h
  · cases h
end
/-! join -/
def strsOf : List D → Option (List Str)
  | [] => some []
  | .str x :: r => (strsOf r).map (x :: ·)
  | _ => none
theorem strs_ok {Z : Sx} {W : Wd} : ∀ {ds : List D} {vs : List V} {bs : List Str}, RepA Z W vs ds → strsOf ds = some bs → vs = bs.map V.str
  | [], _, _, r, h => by cases r; cases h; rfl
  | d :: ds, _, _, r, h => by
    cases r with
    | cons r1 r2 =>
      unfold strsOf at h
      split at h
      · rename_i e; cases e
      · rename_i b rs e
        cases e
        cases q : strsOf ds with
        | none => rw [q] at h; cases h
        | some cs =>
          rw [q] at h
          cases h
          obtain ⟨rfl, _⟩ := rep_str r1
          rw [List.map_cons, strs_ok r2 q]
      · cases h
def asS : D → EM Str
  | .str x => rt x
  | _ => no
theorem asS_ok {d : D} {cs : Cells} {Q : Str → Cells → Prop} {E : Exn → Cells → Prop} (h : wp (asS d) cs Q E) : ∃ b, d = .str b ∧ Q b cs := by
  cases d <;> first | exact ⟨_, rfl, h⟩ | exact h.elim
def joinD (a : Str) (y : D) (cs : Cells) : Option D := match seqOf cs y with
  | some ys => match strsOf ys with
    | some zs => if (decide ((zs.map (·.length)).sum + zs.length * a.length ≤ 1000000) && fitB (Txt.join a zs).length) = true then some (.str (Txt.join a zs)) else none
    | none => none
  | none => none
def xJoin (fo fe : XE) : XE := fun l => bd (fo l) fun x => bd (asS x) fun a => bd (fe l) fun y => rd (joinD a y)
section
variable {X : Cx} {z : ZT} {o e : Expr} {fo fe : XE}
theorem je_join {apos pos : Pos} (ho : JE X z o fo) (he : JE X z e fe) (hs : starEach [e] X.env = [(false, eval e X.env)] := by rfl) (hbase : attributeBase o "join" X.env (eval o X.env) = eval o X.env := by rfl) (hline : (apos.endLine == pos.line) = true := by rfl) :
    JE X z (.Call (.Attribute o "join" apos) [e] [] pos) (xJoin fo fe) := ⟨fun B Er tk => pe_imp (E.pe_joinR (ho.run B Er tk) (he.run B Er tk) hs hbase hline) fun σ H Q h => by
  obtain ⟨W, cs, l, s, lr, w⟩ := h
  refine ⟨W, cs, l, s, lr, wp_imp (wp_bd.mp w) (fun d cs1 w1 W1 v1 H1 le1 o1 s1 r1 => ?_) fun _ _ h => h⟩
  obtain ⟨a, rfl, w1'⟩ := asS_ok (wp_bd.mp w1)
  obtain ⟨rfl, _⟩ := rep_str r1
  refine ⟨⟨a, rfl⟩, W1, cs1, l, s1, lr.mono le1 o1, wp_imp (wp_bd.mp w1') (fun e cs2 w2 W2 v2 H2 le2 o2 s2 r2 => ?_) fun _ _ h => h⟩
  obtain ⟨r, hr, k⟩ := wp_rd.mp w2
  unfold joinD at hr
  split at hr
  · rename_i ys q
    split at hr
    · rename_i zs qz
      split at hr
      · rename_i c
        cases hr
        obtain ⟨c1, c2⟩ := Bool.and_eq_true_iff.mp c
        obtain ⟨p, us, rfl, hs, ra⟩ := seq_ok s2 r2 q
        have eu := strs_ok ra qz
        subst eu
        exact ⟨a, p, zs, rfl, rfl, hs, Nat.le_trans (of_decide_eq_true c1) (by decide), k W2 _ H2 (le1.trans le2) (o2.trans o1) s2 (.str (fitB_ok c2))⟩
      · cases hr
    · cases hr
  · cases hr⟩
end
/-! slices -/
def cutD (xs : List D) (lo hi : Option Int) : List D := (xs.drop (HT.sIx xs.length 0 lo)).take (HT.sIx xs.length xs.length hi - HT.sIx xs.length 0 lo)
theorem RepA.cut {Z : Sx} {W : Wd} {vs : List V} {ds : List D} (r : RepA Z W vs ds) (lo hi : Option Int) : RepA Z W (cutV vs lo hi) (cutD ds lo hi) := by
  unfold cutV cutD
  rw [r.length]
  exact (r.drop _).take _
def slD (d : D) (lo hi : Option Int) (cs : Cells) : Option D := match d with
  | .str x => some (.str (cutS x lo hi))
  | .tup xs => some (.tup (cutD xs lo hi))
  | d => (lsR cs d).map fun xs => .lst (cutD xs lo hi)
theorem cutS_len (x : Str) (lo hi : Option Int) : (cutS x lo hi).length ≤ x.length := by
  show (List.toArray _).size ≤ x.cps.size
  rw [List.size_toArray, List.length_take, List.length_drop]
  have : x.cps.toList.length = x.cps.size := by simp
  omega
abbrev XO := Loc → EM (Option Int)
def asI : D → EM (Option Int)
  | .int i => rt (some i)
  | _ => no
theorem asI_ok {d : D} {cs : Cells} {Q : Option Int → Cells → Prop} {E : Exn → Cells → Prop} (h : wp (asI d) cs Q E) : ∃ b, d = .int b ∧ Q (some b) cs := by
  cases d <;> first | exact ⟨_, rfl, h⟩ | exact h.elim
def oNone : XO := fun _ => rt none
def oSome (f : XE) : XO := fun l => bd (f l) asI
def tOo (Z : Sx) (z : ZT) (B : Wd) (f : XO) (E : Exn → Loc → Cells → Prop) : TO := fun σ H Q => ∃ W cs l, S Z W cs H ∧ LR Z z B W l σ ∧
  wp (f l) cs (fun b cs' => ∀ W' H', Le W W' → W'.O = W.O → S Z W' cs' H' → Q b H') (fun x cs' => E x l cs')
structure JO (X : Cx) (z : ZT) (e : Option Expr) (f : XO) : Prop where
  run : ∀ (B : Wd) (E : Exn → Loc → Cells → Prop), Takes X (wx (sx X) z B E) → PO X e (tOo (sx X) z B f E)
def xSl (f : XE) (lo hi : XO) : XE := fun l => bd (f l) fun d => bd (lo l) fun a => bd (hi l) fun b => rd (slD d a b)
section
variable {X : Cx} {z : ZT} {e : Expr} {o1 o2 : Option Expr} {fe : XE} {f1 f2 : XO} {p2 pos : Pos}
theorem po_imp {o : Option Expr} {t t' : TO} (h : PO X o t) (k : ∀ σ H Q, t' σ H Q → t σ H Q) : PO X o t' := ⟨fun pins s σ H Q I q => h.run pins s σ H Q I (k _ _ _ q)⟩
theorem jo_none : JO X z none oNone := ⟨fun B Er tk => po_imp po_none fun σ H Q ⟨W, cs, l, s, lr, w⟩ => w W H (Le.refl _) rfl s⟩
theorem jo_some (h : JE X z e fe) : JO X z (some e) (oSome fe) := ⟨fun B Er tk => po_imp (po_some (h.run B Er tk)) fun σ H Q ⟨W, cs, l, s, lr, w⟩ => by
  refine ⟨W, cs, l, s, lr, wp_imp (wp_bd.mp w) (fun d cs1 w1 W1 v1 H1 le1 o1 s1 r1 => ?_) fun _ _ h => h⟩
  obtain ⟨i, rfl, k⟩ := asI_ok w1
  cases rep_int r1
  exact ⟨i, rfl, k W1 H1 le1 o1 s1⟩⟩
def rSl (Z : Sx) : V → Option Int → Option Int → Hp → VK → Prop := fun x lo hi H Q => ∃ W cs d r, S Z W cs H ∧ Rep Z W x d ∧ slD d lo hi cs = some r ∧ ∀ W' v H', Le W W' → W'.O = W.O → S Z W' cs H' → Rep Z W' v r → Q v H'
theorem sd_any : SlR X (rSl (sx X)) := by
  intro pins s σ H x v vl vu lo hi sl Q I rx hs pl pu h
  obtain ⟨W, cs, d, r, ss, rr, e, k⟩ := h
  have lst : ∀ {xs : List D}, lsR cs d = some xs → (∀ W' v H', Le W W' → W'.O = W.O → S (sx X) W' cs H' → Rep (sx X) W' v (.lst (cutD xs lo hi)) → Q v H') → rSlL X.K x lo hi H Q := fun {xs} q k => by
    obtain ⟨a, us, rfl, hq, ra⟩ := lsR_ok ss rr q
    exact ⟨a, us, rfl, hq, fun p hp => k _ _ _ (ss.leNew hp) rfl (ss.new hp) (.lst upd_same ((ra.cut lo hi).mono (ss.leNew hp)))⟩
  unfold slD at e
  split at e
  · cases e
    obtain ⟨rfl, hl⟩ := rep_str rr
    exact sl_str pins s σ H _ v vl vu lo hi sl Q I rx hs pl pu ⟨_, rfl, hl, k W _ H (Le.refl _) rfl ss (.str (Nat.le_trans (cutS_len _ lo hi) hl))⟩
  · cases e
    cases rr with
    | tup h1 r1 =>
      refine sl_tupA pins s σ H _ v vl vu lo hi sl Q I rx hs pl pu ⟨_, _, rfl, ex_t ss.g h1, fun hw => ?_, fun _ p hp => k _ _ _ (ss.leNew hp) rfl (ss.new hp) (.tup (st_of upd_same) ((r1.cut lo hi).mono (ss.leNew hp)))⟩
      rename_i ws _ _
      have ec : cutD ws lo hi = ws := by
        unfold cutD
        rw [r1.length] at hw
        rw [hw.1, hw.2, List.drop_zero, Nat.sub_zero, List.take_length]
      rw [ec] at k
      exact k W _ H (Le.refl _) rfl ss (.tup h1 r1)
  · cases q : lsR cs d with
    | none => rw [q] at e; cases e
    | some xs =>
      rw [q] at e
      cases e
      exact sl_list pins s σ H x v vl vu lo hi sl Q I rx hs pl pu (lst q k)
theorem je_sl (he : JE X z e fe) (h1 : JO X z o1 f1) (h2 : JO X z o2 f2) : JE X z (.Subscript e (.Slice o1 o2 none p2) pos) (xSl fe f1 f2) := ⟨fun B Er tk => pe_imp (pe_slice sd_any (he.run B Er tk) (h1.run B Er tk) (h2.run B Er tk)) fun σ H Q ⟨W, cs, l, s, lr, w⟩ => by
  refine ⟨W, cs, l, s, lr, wp_imp (wp_bd.mp w) (fun d cs1 w1 W1 v1 H1 le1 o1 s1 r1 => ?_) fun _ _ h => h⟩
  refine ⟨W1, cs1, l, s1, lr.mono le1 o1, wp_imp (wp_bd.mp w1) (fun a cs2 w2 W2 H2 le2 o2 s2 => ?_) fun _ _ h => h⟩
  refine ⟨W2, cs2, l, s2, lr.mono (le1.trans le2) (o2.trans o1), wp_imp (wp_bd.mp w2) (fun b cs3 w3 W3 H3 le3 o3 s3 => ?_) fun _ _ h => h⟩
  obtain ⟨r, hr, k⟩ := wp_rd.mp w3
  exact ⟨W3, cs3, d, r, s3, r1.mono (le2.trans le3), hr, fun W4 v H4 le4 o4 s4 r4 => k W4 v H4 (((le1.trans le2).trans le3).trans le4) (o4.trans (o3.trans (o2.trans o1))) s4 r4⟩⟩
end
def dRevL (cs : Cells) (d : D) : Option D := (lsR cs d).map fun xs => .lst xs.reverse
def dRevT (_ : Cells) (d : D) : Option D := match d with
  | .tup xs => some (.tup xs.reverse)
  | _ => none
section
variable {X : Cx} {z : ZT} {e : Expr} {fe : XE} {k : Nat} {p1 p2 p3 pos : Pos}
theorem je_revL (he : JE X z e fe) : JE X z (.Subscript e (.Slice none none (some (.UnaryOp .USub (.Constant (.int 1) k p1) p2)) p3) pos) (x1 dRevL fe) := ⟨fun B Er tk => pe_imp (pe_revL (he.run B Er tk)) fun σ H Q ⟨W, cs, l, s, lr, w⟩ => by
  refine ⟨W, cs, l, s, lr, wp_imp (wp_bd.mp w) (fun d cs1 w1 W1 v1 H1 le1 o1 s1 r1 => ?_) fun _ _ h => h⟩
  obtain ⟨r, hr, k⟩ := wp_rd.mp w1
  unfold dRevL at hr
  cases q : lsR cs1 d with
  | none => rw [q] at hr; cases hr
  | some xs =>
    rw [q] at hr
    cases hr
    obtain ⟨a, us, rfl, hq, ra⟩ := lsR_ok s1 r1 q
    exact ⟨a, us, rfl, hq, fun p hp => k _ _ _ (le1.trans (s1.leNew hp)) o1 (s1.new hp) (.lst upd_same (ra.reverse.mono (s1.leNew hp)))⟩⟩
end
/-! isinstance -/
inductive Tag where
  | b (n : String) | c (x : Str)
  deriving DecidableEq
def tagOf (cs : Cells) : D → Option Tag
  | .non => some (.b "NoneType")
  | .bl _ => some (.b "bool")
  | .int _ => some (.b "int")
  | .str _ => some (.b "str")
  | .tup _ => some (.b "tuple")
  | .lst _ => some (.b "list")
  | .wls _ => some (.b "list")
  | .ins c _ => some (.c c)
  | .cel n => match cs[n]? with
    | some (.lst _) => some (.b "list")
    | some (.ins c _) => some (.c c)
    | some (.dct _) => some (.b "dict")
    | _ => none
  | _ => none
def tyKnown : List String := ["NoneType", "bool", "int", "str", "tuple", "list", "dict"]
def tyAsked : List String := ["bool", "int", "str", "tuple", "list", "dict"]
def isiB (n m : String) : Option Bool := if n ∈ tyKnown ∧ m ∈ tyAsked then some (decide (n = m) || (decide (n = "bool") && decide (m = "int"))) else none
theorem isiB_all : (tyKnown.all fun n => tyAsked.all fun m => decide (kitB n m = some (decide (n = m) || (decide (n = "bool") && decide (m = "int"))))) = true := by decide +kernel
theorem isiB_ok {n m : String} {b : Bool} (h : isiB n m = some b) : kitB n m = some b := by
  unfold isiB at h
  split at h
  · rename_i c
    cases h
    exact of_decide_eq_true (List.all_eq_true.mp (List.all_eq_true.mp isiB_all n c.1) m c.2)
  · cases h
end F

/-! statements -/
namespace F
open PySem PySem.Spec PyProof.Rows L2 Evl
def onE {α : Type} (m : EM α) (l : Loc) (cs : Cells) (k : α → Cells → SO) : SO := match m cs with
  | .ok a cs' => k a cs'
  | .exc x cs' => .go (.ex x l) cs'
  | .no => .no
theorem wpS_onE {α : Type} {m : EM α} {l : Loc} {cs : Cells} {k : α → Cells → SO} {Q : Fl → Cells → Prop} : wpS (onE m l cs k) Q ↔ wp m cs (fun a cs' => wpS (k a cs') Q) fun x cs' => Q (.ex x l) cs' := by
  unfold onE wp
  cases m cs <;> exact Iff.rfl
def sNx : XS := fun l cs => .go (.nx l) cs
def sSeq (f g : XS) : XS := fun l cs => match f l cs with
  | .go (.nx l') cs' => g l' cs'
  | r => r
theorem wpS_seq {f g : XS} {l : Loc} {cs : Cells} {Q : Fl → Cells → Prop} : wpS (sSeq f g l cs) Q ↔ wpS (f l cs) fun fl cs' => match fl with
    | .nx l' => wpS (g l' cs') Q
    | r => Q r cs' := by
  unfold sSeq
  cases f l cs with
  | no => exact Iff.rfl
  | go fl cs' => cases fl <;> exact Iff.rfl
def sSet (i : Nat) (f : XE) : XS := fun l cs => onE (f l) l cs fun d cs' => .go (.nx (l.set i (.val d))) cs'
def sDrop (f : XE) : XS := fun l cs => onE (f l) l cs fun _ cs' => .go (.nx l) cs'
def sRet (f : XE) : XS := fun l cs => onE (f l) l cs fun d cs' => .go (.ret d) cs'
def sRetN : XS := fun _ cs => .go (.ret .non) cs
def sIf (t : XB) (f g : XS) : XS := fun l cs => onE (t l) l cs fun b cs' => if b = true then f l cs' else g l cs'
def sBk : XS := fun l cs => .go (.bk l) cs
def sCt : XS := fun l cs => .go (.ct l) cs
section
variable {Z : Sx} {z : ZT} {B : Wd} {W W' : Wd} {l : Loc} {σ : L2.St} {H : Hp} {cs : Cells}
theorem LR.set {i : Nat} {v : V} {d : D} (h : LR Z z B W l σ) (r : Rep Z W v d) : LR Z z B W (l.set i (.val d)) (σ.set i (some v)) where
  len := by rw [List.length_set, List.length_set]; exact h.len
  sl := fun j s e => by
    by_cases hj : j = i
    · subst hj
      have hlt : j < l.length := by
        have := (List.getElem?_eq_some_iff.mp e).1
        rw [List.length_set] at this
        exact this
      rw [List.getElem?_set_self hlt] at e
      cases e
      exact ⟨v, by rw [List.getElem?_set_self (by rw [← h.len]; exact hlt)], r⟩
    · rw [List.getElem?_set_ne (Ne.symm hj)] at e ⊢
      exact h.sl j s e
  dj := fun j k c c' a h1 h2 h3 h4 => by
    have ne : ∀ {m : Nat} {cc : C}, (l.set i (.val d))[m]? = some (.own cc) → m ≠ i := fun {m cc} e z => by
      subst z
      have hlt : m < l.length := by
        have := (List.getElem?_eq_some_iff.mp e).1
        rw [List.length_set] at this
        exact this
      rw [List.getElem?_set_self hlt] at e
      cases e
    have n1 := ne h1
    have n2 := ne h2
    rw [List.getElem?_set_ne (Ne.symm n1)] at h1 h3
    rw [List.getElem?_set_ne (Ne.symm n2)] at h2 h4
    exact h.dj j k c c' a h1 h2 h3 h4
  base := h.base
theorem post_le {E : Exn → Loc → Cells → Prop} {D : Ends} (e : Le W W') : ∀ {fl : Fl} {cs : Cells}, post Z z B W E D fl cs → post Z z B W' E D fl cs
  | .nx _, _, h => fun W2 σ H le s lr => h W2 σ H (e.trans le) s lr
  | .bk _, _, h => fun W2 σ H le s lr => h W2 σ H (e.trans le) s lr
  | .ct _, _, h => fun W2 σ H le s lr => h W2 σ H (e.trans le) s lr
  | .ret _, _, h => fun W2 v H le s o r => h W2 v H (e.trans le) s o r
  | .ex _ _, _, h => h
end
section
variable {X : Cx} {z : ZT} {st : Stmt} {sts : List Stmt} {e c : Expr} {fe : XE} {tc : XB} {f g : XS} {pos : Pos}
theorem js_set {i : Nat} (hp : ∀ {t : TE}, PE X e t → PS X st (tAsg t (gName i))) (h : JE X z e fe) : JS X z st (sSet i fe) := ⟨fun B E tk => ps_imp (hp (h.run B E tk)) fun D σ H ⟨W, cs, l, s, lr, w⟩ =>
  ⟨W, cs, l, s, lr, wp_imp (wpS_onE.mp w) (fun d cs1 w1 W1 v1 H1 le1 o1 s1 r1 => w1 W1 _ H1 le1 s1 ((lr.mono le1 o1).set r1)) fun _ _ h => h⟩⟩
theorem js_drop (h : JE X z e fe) (hs : swapsWith e none pos.line X.env = pure false := by rfl) : JS X z (.Expr e pos) (sDrop fe) := ⟨fun B E tk => ps_imp (ps_expr (h.run B E tk) hs) fun D σ H ⟨W, cs, l, s, lr, w⟩ =>
  ⟨W, cs, l, s, lr, wp_imp (wpS_onE.mp w) (fun d cs1 w1 W1 v1 H1 le1 o1 s1 r1 => w1 W1 _ H1 le1 s1 (lr.mono le1 o1)) fun _ _ h => h⟩⟩
theorem js_ret (h : JE X z e fe) : JS X z (.Return (some e) pos) (sRet fe) := ⟨fun B E tk => ps_imp (ps_ret (h.run B E tk)) fun D σ H ⟨W, cs, l, s, lr, w⟩ =>
  ⟨W, cs, l, s, lr, wp_imp (wpS_onE.mp w) (fun d cs1 w1 W1 v1 H1 le1 o1 s1 r1 => w1 W1 v1 H1 le1 s1 (by rw [o1]; exact lr.base.2) r1) fun _ _ h => h⟩⟩
theorem js_retN : JS X z (.Return none pos) sRetN := ⟨fun B E tk => ps_imp ps_retN fun D σ H ⟨W, cs, l, s, lr, w⟩ => w W .non H (Le.refl _) s lr.base.2 .non⟩
theorem js_pass : JS X z (.Pass pos) sNx := ⟨fun B E tk => ps_imp ps_pass fun D σ H ⟨W, cs, l, s, lr, w⟩ => w W σ H (Le.refl _) s lr⟩
theorem js_break : JS X z (.Break pos) sBk := ⟨fun B E tk => ps_imp ps_break fun D σ H ⟨W, cs, l, s, lr, w⟩ => w W σ H (Le.refl _) s lr⟩
theorem js_cont : JS X z (.Continue pos) sCt := ⟨fun B E tk => ps_imp ps_continue fun D σ H ⟨W, cs, l, s, lr, w⟩ => w W σ H (Le.refl _) s lr⟩
theorem jss_nil : JSs X z [] sNx := ⟨fun B E tk => pss_imp pss_nil fun D σ H ⟨W, cs, l, s, lr, w⟩ => w W σ H (Le.refl _) s lr⟩
theorem jss_one (h : JS X z st f) : JSs X z [st] f := ⟨fun B E tk => pss_one (h.run B E tk)⟩
theorem jss_cons (h : JS X z st f) (hr : JSs X z sts g) : JSs X z (st :: sts) (sSeq f g) := ⟨fun B E tk => pss_imp (pss_cons (h.run B E tk) (hr.run B E tk)) fun D σ H ⟨W, cs, l, s, lr, w⟩ => by
  refine ⟨W, cs, l, s, lr, wpS_imp (wpS_seq.mp w) fun fl cs1 w1 => ?_⟩
  cases fl with
  | nx l1 => exact fun W1 σ1 H1 le1 s1 lr1 => ⟨W1, cs1, l1, s1, lr1, wpS_imp w1 fun fl cs2 p => post_le le1 p⟩
  | _ => exact w1⟩
theorem js_if {a b : List Stmt} (hc : JT X z c tc) (ha : JSs X z a f) (hb : JSs X z b g) : JS X z (.If c a b pos) (sIf tc f g) := ⟨fun B E tk => ps_imp (ps_if (hc.run B E tk) (ha.run B E tk) (hb.run B E tk)) fun D σ H ⟨W, cs, l, s, lr, w⟩ => by
  refine ⟨W, cs, l, s, lr, wp_imp (wpS_onE.mp w) (fun k cs1 w1 W1 H1 le1 o1 s1 => ?_) fun _ _ h => h⟩
  cases k with
  | true => exact iteT ⟨W1, cs1, l, s1, lr.mono le1 o1, wpS_imp w1 fun fl cs2 p => post_le le1 p⟩
  | false => exact iteF ⟨W1, cs1, l, s1, lr.mono le1 o1, wpS_imp w1 fun fl cs2 p => post_le le1 p⟩⟩
end
/-! ### targets -/
abbrev XG := D → Loc → Cells → Option Loc
def gN (i : Nat) : XG := fun d l _ => some (l.set i (.val d))
/-- the slots but ts are the same -/
def Off (ts : List Nat) (σ σ' : L2.St) : Prop := σ'.length = σ.length ∧ ∀ j : Nat, j ∉ ts → σ'[j]? = σ[j]?
theorem Off.trans {ts us : List Nat} {σ σ1 σ2 : L2.St} (a : Off ts σ σ1) (b : Off us σ1 σ2) : Off (ts ++ us) σ σ2 := ⟨b.1.trans a.1, fun j h => (b.2 j fun z => h (List.mem_append_right _ z)).trans (a.2 j fun z => h (List.mem_append_left _ z))⟩
def tG (Z : Sx) (z : ZT) (B : Wd) (ts : List Nat) (g : XG) : TG := fun v σ H R => ∃ W cs l d l', S Z W cs H ∧ LR Z z B W l σ ∧ Rep Z W v d ∧ g d l cs = some l' ∧ ∀ σ', LR Z z B W l' σ' → Off ts σ σ' → R σ' H
structure JG (X : Cx) (z : ZT) (tg : Expr) (ts : List Nat) (g : XG) : Prop where
  run : ∀ B : Wd, PG X tg (tG (sx X) z B ts g)
abbrev XGs := List D → Loc → Cells → Option Loc
def tGs (Z : Sx) (z : ZT) (B : Wd) (ts : List Nat) (g : XGs) : TGs := fun vs σ H R => ∃ W cs l ds l', S Z W cs H ∧ LR Z z B W l σ ∧ RepA Z W vs ds ∧ g ds l cs = some l' ∧ ∀ σ', LR Z z B W l' σ' → Off ts σ σ' → R σ' H
structure JGs (X : Cx) (z : ZT) (tg : List Expr) (ts : List Nat) (g : XGs) : Prop where
  run : ∀ B : Wd, PGs X tg (tGs (sx X) z B ts g)
def gsNil : XGs := fun ds l _ => match ds with
  | [] => some l
  | _ => none
def gsCons (g : XG) (h : XGs) : XGs := fun ds l cs => match ds with
  | d :: r => match g d l cs with
    | some l' => h r l' cs
    | none => none
  | [] => none
def gT (n : Nat) (g : XGs) : XG := fun d l cs => match d with
  | .tup ds => if ds.length = n then g ds l cs else none
  | _ => none
section
variable {X : Cx} {z : ZT} {tg : Expr} {tgs : List Expr} {g : XG} {gs : XGs} {pos : Pos}
theorem pg_im {t t' : TG} (h : PG X tg t) (k : ∀ v σ H R, t' v σ H R → t v σ H R) : PG X tg t' := ⟨fun pins s σ H v u Q I r q => h.run pins s σ H v u Q I r (k _ _ _ _ q)⟩
theorem pgs_im {t t' : TGs} (h : PGs X tgs t) (k : ∀ v σ H R, t' v σ H R → t v σ H R) : PGs X tgs t' := ⟨fun pins s σ H v u Q I r q => h.run pins s σ H v u Q I r (k _ _ _ _ q)⟩
theorem jg_name {i : Nat} (h : PG X tg (gName i)) : JG X z tg [i] (gN i) := ⟨fun B => pg_im h fun v σ H R ⟨W, cs, l, d, l', s, lr, r, e, k⟩ => by
  cases e
  exact k _ (lr.set r) ⟨List.length_set .., fun j h => List.getElem?_set_ne (fun z => h (by simp [z]))⟩⟩
theorem jgs_nil : JGs X z [] [] gsNil := ⟨fun B => pgs_im pgs_nil fun vs σ H R ⟨W, cs, l, ds, l', s, lr, r, e, k⟩ => by
  cases r with
  | nil => cases e; exact ⟨rfl, k _ lr ⟨rfl, fun _ _ => rfl⟩⟩
  | cons _ _ => cases e⟩
theorem jgs_cons {ts us : List Nat} (h1 : JG X z tg ts g) (h2 : JGs X z tgs us gs) (hs : (assignEach (tg :: tgs) X.env).map (·.2) = assign tg X.env :: (assignEach tgs X.env).map (·.2) := by rfl) : JGs X z (tg :: tgs) (ts ++ us) (gsCons g gs) := ⟨fun B => pgs_im (pgs_cons (h1.run B) (h2.run B) hs) fun vs σ H R ⟨W, cs, l, ds, l', s, lr, r, e, k⟩ => by
  cases r with
  | nil => cases e
  | cons r1 r2 =>
    unfold gsCons at e
    dsimp only at e
    split at e
    · rename_i l1 q
      exact ⟨_, _, rfl, W, cs, l, _, l1, s, lr, r1, q, fun σ1 lr1 o1 => ⟨W, cs, l1, _, l', s, lr1, r2, e, fun σ2 lr2 o2 => k σ2 lr2 (o1.trans o2)⟩⟩
    · cases e⟩
theorem jg_tup {n kk : Nat} {ts : List Nat} (hc : X.calm = true) (h : JGs X z tgs ts gs) (hn : (assignEach tgs X.env).length = n := by rfl) (hst : (assignEach tgs X.env).findIdx? (·.1) = none := by rfl) : JG X z (.Tuple tgs kk pos) ts (gT n gs) := ⟨fun B => pg_im (pg_tup hc (h.run B) hn hst) fun v σ H R ⟨W, cs, l, d, l', s, lr, r, e, k⟩ => by
  unfold gT at e
  split at e
  · rename_i ds
    split at e
    · rename_i hl
      cases r with
      | tup h1 r1 => exact ⟨_, _, rfl, ex_t s.g h1, by rw [r1.length]; exact hl, W, cs, l, ds, l', s, lr, r1, e, k⟩
    · cases e
  · cases e⟩
end
/-- target = value -/
def sAsg (f : XE) (g : XG) : XS := fun l cs => onE (f l) l cs fun d cs' => match g d l cs' with
  | some l' => .go (.nx l') cs'
  | none => .no
theorem js_asg {X : Cx} {z : ZT} {tg e : Expr} {fe : XE} {g : XG} {ts : List Nat} {pos : Pos} (he : JE X z e fe) (hg : JG X z tg ts g) (hs : swapsWithSole [tg] e pos.line X.env = pure false := by rfl) (hw : swappedStores [tg] e X.env = pure none := by rfl)
    (h1 : (assignEach [tg] X.env).map (·.2) = [assign tg X.env] := by rfl) : JS X z (.Assign [tg] e pos) (sAsg fe g) := ⟨fun B E tk => ps_imp (ps_asg (he.run B E tk) (hg.run B) hs hw h1) fun D σ H ⟨W, cs, l, s, lr, w⟩ => by
  refine ⟨W, cs, l, s, lr, wp_imp (wpS_onE.mp w) (fun d cs1 w1 W1 v1 H1 le1 o1 s1 r1 => ?_) fun _ _ h => h⟩
  split at w1
  · rename_i l' e
    exact ⟨W1, cs1, l, d, l', s1, lr.mono le1 o1, r1, e, fun σ' lr' _ => w1 W1 σ' H1 le1 s1 lr'⟩
  · exact w1.elim⟩
/-! ### what is walked -/
/-- J walks ds while W stands -/
def Walks (Z : Sx) (W : Wd) (J : It) (ds : List D) : Prop := ∀ W1 cs H, Le W W1 → S Z W1 cs H → ∀ i : Nat, (∀ d, ds[i]? = some d → J.go i H ∧ ∀ x H', J.yld i H x H' → ∃ W2, Le W1 W2 ∧ W2.O = W1.O ∧ S Z W2 cs H' ∧ Rep Z W2 x d) ∧ (ds.length ≤ i → J.stop i H)
theorem Walks.mono {Z : Sx} {W W' : Wd} {J : It} {ds : List D} (h : Walks Z W J ds) (e : Le W W') : Walks Z W' J ds := fun W1 cs H le => h W1 cs H (e.trans le)
def tIx (Z : Sx) (z : ZT) (B : Wd) (f : XA) (E : Exn → Loc → Cells → Prop) : TI := fun σ H R => ∃ W cs l, S Z W cs H ∧ LR Z z B W l σ ∧
  wp (f l) cs (fun ds cs' => ∀ W' J H', Le W W' → W'.O = W.O → S Z W' cs' H' → Walks Z W' J ds → R J H') (fun x cs' => E x l cs')
structure JI (X : Cx) (z : ZT) (tg e : Expr) (f : XA) : Prop where
  run : ∀ (B : Wd) (E : Exn → Loc → Cells → Prop), Takes X (wx (sx X) z B E) → PI X tg e (tIx (sx X) z B f E)
/-- a list or a tuple that stands -/
def frzL : D → Option (List D)
  | .lst xs => some xs
  | .wls xs => some xs
  | .tup xs => some xs
  | _ => none
def iSeq (f : XE) : XA := fun l => bd (f l) fun d => rd fun _ => frzL d
def iStr (f : XE) : XA := fun l => bd (f l) fun d => bd (asS d) fun x => rt (x.cps.toList.map fun c => D.str ⟨#[c]⟩)
def cRng (j : Int) : Bool := decide (j < 1000000)
def iRng (f : XE) : XA := fun l => bd (f l) fun d => bd (asI d) fun o => match o with
  | some j => if (decide (-1000000 < j) && cRng j) = true then rt ((List.range j.toNat).map fun (i : Nat) => D.int i) else no
  | none => no
def iRng2 (f g : XE) : XA := fun l => bd (f l) fun d => bd (asI d) fun a => bd (g l) fun e => bd (asI e) fun b => match a, b with
  | some i, some j => if (decide (-1000000 < i) && (cRng i && (decide (-1000000 < j) && cRng j))) = true then rt ((List.range (j - i).toNat).map fun (k : Nat) => D.int (i + k)) else no
  | _, _ => no
def numbered : Nat → List D → List D
  | _, [] => []
  | n, d :: ds => .tup [.int n, d] :: numbered (n + 1) ds
def iEnu (f : XE) : XA := fun l => bd (f l) fun d => rd fun _ => match d with
  | .lst xs => some (numbered 0 xs)
  | .wls xs => some (numbered 0 xs)
  | _ => none
section
variable {Z : Sx} {W : Wd}
theorem walks_l {a : Addr} {xs : List V} {ds : List D} (h : SqL Z.K W.G a xs) (r : RepA Z W xs ds) : Walks Z W (Itl Z.K a) ds := fun W1 cs H le s i => by
  have hq : SqL Z.K H a xs := ex_l (le.g.trans s.g) h
  refine ⟨fun d hd => ?_, fun hl => ⟨xs, hq, by rw [r.length]; exact hl⟩⟩
  obtain ⟨v, hv, rv⟩ := r.get hd
  refine ⟨⟨xs, v, hq, hv⟩, fun x H' y => ?_⟩
  obtain ⟨e, y⟩ := y
  subst e
  have hx := y xs hq
  rw [hv] at hx
  cases hx
  exact ⟨W1, Le.refl _, rfl, s, rv.mono le⟩
theorem walks_t {a : Addr} {xs : List V} {ds : List D} (h : SqT Z.K W.G a xs) (r : RepA Z W xs ds) : Walks Z W (Itt Z.K a) ds := fun W1 cs H le s i => by
  have hq : SqT Z.K H a xs := ex_t (le.g.trans s.g) h
  refine ⟨fun d hd => ?_, fun hl => ⟨xs, hq, by rw [r.length]; exact hl⟩⟩
  obtain ⟨v, hv, rv⟩ := r.get hd
  refine ⟨⟨xs, v, hq, hv⟩, fun x H' y => ?_⟩
  obtain ⟨e, y⟩ := y
  subst e
  have hx := y xs hq
  rw [hv] at hx
  cases hx
  exact ⟨W1, Le.refl _, rfl, s, rv.mono le⟩
theorem walks_s (x : Str) : Walks Z W (Its x) (x.cps.toList.map fun c => D.str ⟨#[c]⟩) := fun W1 cs H le s i => by
  refine ⟨fun d hd => ?_, fun hl => show x.cps.size ≤ i by simpa using hl⟩
  rw [List.getElem?_map] at hd
  cases q : x.cps.toList[i]? with
  | none => rw [q] at hd; cases hd
  | some c =>
    rw [q] at hd
    cases hd
    have hlt : i < x.cps.size := by
      have := (List.getElem?_eq_some_iff.mp q).1
      simpa using this
    refine ⟨hlt, fun v H' y => ?_⟩
    obtain ⟨e, c', hc, ev⟩ := y
    subst e ev
    have : c' = c := by
      have q' : x.cps[i]? = some c := by simpa using q
      rw [q'] at hc
      exact (Option.some.inj hc).symm
    subst this
    exact ⟨W1, Le.refl _, rfl, s, .str (show (1 : Nat) ≤ sizeLine by decide)⟩
theorem walks_r (lo : Int) (n : Nat) : Walks Z W (Itr lo n) ((List.range n).map fun (k : Nat) => D.int (lo + k)) := fun W1 cs H le s i => by
  refine ⟨fun d hd => ?_, fun hl => show n ≤ i by simpa using hl⟩
  rw [List.getElem?_map] at hd
  cases q : (List.range n)[i]? with
  | none => rw [q] at hd; cases hd
  | some c =>
    rw [q] at hd
    cases hd
    obtain ⟨h1, h2⟩ := List.getElem?_eq_some_iff.mp q
    rw [List.getElem_range] at h2
    subst h2
    rw [List.length_range] at h1
    refine ⟨h1, fun v H' y => ?_⟩
    obtain ⟨e, ev⟩ := y
    subst e ev
    exact ⟨W1, Le.refl _, rfl, s, .int _⟩
theorem numbered_get : ∀ (n i : Nat) (ds : List D), (numbered n ds)[i]? = (ds[i]?).map fun d => D.tup [.int ((n + i : Nat) : Int), d]
  | n, i, [] => by simp [numbered]
  | n, 0, d :: ds => by simp [numbered]
  | n, i + 1, d :: ds => by
    unfold numbered
    rw [List.getElem?_cons_succ, List.getElem?_cons_succ, numbered_get (n + 1) i ds]
    have e : n + 1 + i = n + (i + 1) := by omega
    rw [e]
theorem numbered_len : ∀ (n : Nat) (ds : List D), (numbered n ds).length = ds.length
  | _, [] => rfl
  | n, d :: ds => by unfold numbered; rw [List.length_cons, List.length_cons, numbered_len (n + 1) ds]
theorem walks_e {a : Addr} {xs : List V} {ds : List D} (h : SqL Z.K W.G a xs) (r : RepA Z W xs ds) : Walks Z W (Ite Z.K a) (numbered 0 ds) := fun W1 cs H le s i => by
  have hq : SqL Z.K H a xs := ex_l (le.g.trans s.g) h
  refine ⟨fun d hd => ?_, fun hl => ⟨xs, hq, by rw [r.length]; rw [numbered_len] at hl; exact hl⟩⟩
  rw [numbered_get] at hd
  cases q : ds[i]? with
  | none => rw [q] at hd; cases hd
  | some d0 =>
    rw [q] at hd
    cases hd
    obtain ⟨v, hv, rv⟩ := r.get q
    refine ⟨⟨xs, v, hq, hv⟩, fun x H' y => ?_⟩
    obtain ⟨T, u, ex, fr, eH, y⟩ := y
    subst ex eH
    have hx := y xs hq
    rw [hv] at hx
    cases hx
    refine ⟨W1.new T _, s.leNew fr, rfl, s.new fr, .tup (st_of upd_same) (.cons ?_ (.cons ((rv.mono le).mono (s.leNew fr)) .nil))⟩
    rw [Nat.zero_add]
    exact .int _
end
section
variable {X : Cx} {z : ZT} {tg e a b : Expr} {fe fa fb : XE} {p pos : Pos}
theorem pi_im {t t' : TI} (h : PI X tg e t) (k : ∀ σ H R, t' σ H R → t σ H R) : PI X tg e t' := ⟨fun pins s σ H Q I q => h.run pins s σ H Q I (k _ _ _ q)⟩
theorem ji_seq (h : JE X z e fe) : JI X z tg e (iSeq fe) := ⟨fun B Er tk => pi_im (E.pi_sq (h.run B Er tk)) fun σ H R ⟨W, cs, l, s, lr, w⟩ => by
  refine ⟨W, cs, l, s, lr, wp_imp (wp_bd.mp w) (fun d cs1 w1 W1 v1 H1 le1 o1 s1 r1 => ?_) fun _ _ h => h⟩
  obtain ⟨ds, hr, k⟩ := wp_rd.mp w1
  cases r1 with
  | tup h1 r1 => cases hr; exact ⟨_, rfl, .inr ⟨⟨_, ex_t s1.g h1⟩, k W1 _ H1 le1 o1 s1 (walks_t h1 r1)⟩⟩
  | lst h1 r1 => cases hr; exact ⟨_, rfl, .inl ⟨⟨_, sq_of (s1.g _ _ h1)⟩, k W1 _ H1 le1 o1 s1 (walks_l (sq_of h1) r1)⟩⟩
  | wls h1 r1 => cases hr; exact ⟨_, rfl, .inl ⟨⟨_, ex_l s1.g h1⟩, k W1 _ H1 le1 o1 s1 (walks_l h1 r1)⟩⟩
  | _ => cases hr⟩
theorem ji_str (h : JE X z e fe) : JI X z tg e (iStr fe) := ⟨fun B Er tk => pi_im (pi_str (h.run B Er tk)) fun σ H R ⟨W, cs, l, s, lr, w⟩ => by
  refine ⟨W, cs, l, s, lr, wp_imp (wp_bd.mp w) (fun d cs1 w1 W1 v1 H1 le1 o1 s1 r1 => ?_) fun _ _ h => h⟩
  obtain ⟨x, rfl, k⟩ := asS_ok (wp_bd.mp w1)
  obtain ⟨rfl, _⟩ := rep_str r1
  exact ⟨x, rfl, k W1 _ H1 le1 o1 s1 (walks_s x)⟩⟩
theorem ji_rng (hg : Gl X "range") (hm : X.mg "range" = none) (h : JE X z a fa) (hs : starEach [a] X.env = [(false, eval a X.env)] := by rfl) : JI X z tg (.Call (.Name "range" p) [a] [] pos) (iRng fa) := ⟨fun B Er tk => pi_im (pi_range1 hg hm ((ja_cons h ja_nil hs).run B Er tk) hs) fun σ H R ⟨W, cs, l, s, lr, w⟩ => by
  refine ⟨W, cs, l, s, lr, wp_bd.mpr (wp_imp (wp_bd.mp w) (fun d cs1 w1 => ?_) fun _ _ h => h)⟩
  obtain ⟨i, rfl, k⟩ := asI_ok (wp_bd.mp w1)
  intro W1 vs H1 le1 o1 s1 r1
  cases r1 with
  | cons r1 r2 =>
    cases r2
    cases rep_int r1
    by_cases c : (decide (-1000000 < i) && cRng i) = true
    · have k' : wp (rt ((List.range i.toNat).map fun (i : Nat) => D.int i)) cs1 (fun ds cs' => ∀ W' J H', Le W W' → W'.O = W.O → S (sx X) W' cs' H' → Walks (sx X) W' J ds → R J H') (fun x cs' => Er x l cs') := by
        dsimp only at k
        rw [if_pos c] at k
        exact k
      obtain ⟨c1, c2⟩ := Bool.and_eq_true_iff.mp c
      have c1' := of_decide_eq_true c1
      have c2' : i < 1000000 := of_decide_eq_true c2
      refine ⟨i, rfl, by omega, by omega, k' W1 _ H1 le1 o1 s1 ?_⟩
      have := walks_r (Z := sx X) (W := W1) 0 i.toNat
      simp only [Int.zero_add] at this
      exact this
    · dsimp only at k
      rw [if_neg c] at k
      exact k.elim⟩
theorem ji_enu {elts : List Expr} {kk : Nat} {tpos : Pos} (hg : Gl X "enumerate") (hm : X.mg "enumerate" = none) (h : JE X z e fe) (hs : starEach [e] X.env = [(false, eval e X.env)] := by rfl) : JI X z (.Tuple elts kk tpos) (.Call (.Name "enumerate" p) [e] [] pos) (iEnu fe) := ⟨fun B Er tk => pi_im (pi_enum hg hm ((ja_cons h ja_nil hs).run B Er tk) hs) fun σ H R ⟨W, cs, l, s, lr, w⟩ => by
  refine ⟨W, cs, l, s, lr, wp_bd.mpr (wp_imp (wp_bd.mp w) (fun d cs1 w1 => ?_) fun _ _ h => h)⟩
  obtain ⟨ds, hr, k⟩ := wp_rd.mp w1
  intro W1 vs H1 le1 o1 s1 r1
  cases r1 with
  | cons r1 r2 =>
    cases r2
    cases r1 with
    | lst h1 r1 => cases hr; exact ⟨_, _, rfl, sq_of (s1.g _ _ h1), k W1 _ H1 le1 o1 s1 (walks_e (sq_of h1) r1)⟩
    | wls h1 r1 => cases hr; exact ⟨_, _, rfl, ex_l s1.g h1, k W1 _ H1 le1 o1 s1 (walks_e h1 r1)⟩
    | _ => cases hr⟩
end
/-! ### for -/
def forL (body : D → Loc → Cells → SO) : List D → Loc → Cells → SO
  | [], l, cs => .go (.nx l) cs
  | d :: ds, l, cs => match body d l cs with
    | .go (.nx l') cs' => forL body ds l' cs'
    | .go (.ct l') cs' => forL body ds l' cs'
    | .go (.bk l') cs' => .go (.nx l') cs'
    | r => r
def turn (g : XG) (b : XS) : D → Loc → Cells → SO := fun d l cs => match g d l cs with
  | some l' => b l' cs
  | none => .no
def sFor (f : XA) (g : XG) (b : XS) : XS := fun l cs => onE (f l) l cs fun ds cs' => forL (turn g b) ds l cs'
section
variable {X : Cx} {z : ZT} {tg iter : Expr} {body : List Stmt} {f : XA} {g : XG} {b : XS} {pos : Pos} {ts : List Nat}
theorem js_for (hp : PassesOwn (model X.prog X.w) X.A X.env X.xe) (hc : X.calm = true) (hi : JI X z tg iter f) (hg : JG X z tg ts g) (hb : JSs X z body b) (hs : ∀ x, foldedSetIterable iter X.env x = pure x := by intro _; rfl) :
    JS X z (.For tg iter body [] pos) (sFor f g b) := ⟨fun B Er tk => ps_imp (ps_for hp hc (hi.run B Er tk) (hg.run B) (hb.run B Er tk) hs) fun D σ H ⟨W, cs, l, s, lr, w⟩ => by
  refine ⟨W, cs, l, s, lr, wp_imp (wpS_onE.mp w) (fun ds cs1 w1 W1 J H1 le1 o1 s1 wk => ?_) fun _ _ h => h⟩
  refine ⟨fun i m σ H => ∃ W2 cs2 l2, Le W1 W2 ∧ S (sx X) W2 cs2 H ∧ LR (sx X) z B W2 l2 σ ∧ m = ds.length - i ∧ i ≤ ds.length ∧ wpS (forL (turn g b) (ds.drop i) l2 cs2) (post (sx X) z B W Er D),
    ⟨_, W1, cs1, l, Le.refl _, s1, lr.mono le1 o1, rfl, Nat.zero_le _, w1⟩, ?_⟩
  rintro i m σ H ⟨W2, cs2, l2, le2, s2, lr2, rfl, hi, w2⟩
  obtain ⟨go, stop⟩ := wk W2 cs2 H le2 s2 i
  by_cases hlt : i < ds.length
  · refine .inr ?_
    have hd : ds[i]? = some ds[i] := List.getElem?_eq_getElem hlt
    obtain ⟨g1, y1⟩ := go _ hd
    rw [List.drop_eq_getElem_cons hlt] at w2
    refine ⟨g1, fun σ' H' => ∃ W3 cs3 l3, Le W1 W3 ∧ S (sx X) W3 cs3 H' ∧ LR (sx X) z B W3 l3 σ' ∧ wpS (forL (turn g b) (ds.drop (i + 1)) l3 cs3) (post (sx X) z B W Er D), fun σ' H' ⟨W3, cs3, l3, le3, s3, lr3, w3⟩ => ⟨ds.length - (i + 1), by omega, W3, cs3, l3, le3, s3, lr3, rfl, hlt, w3⟩, fun x H' y => ?_⟩
    obtain ⟨W3, le3, o3, s3, r3⟩ := y1 x H' y
    have lr3 := lr2.mono le3 o3
    unfold forL turn at w2
    cases q : g ds[i] l2 cs2 with
    | none => rw [q] at w2; exact w2.elim
    | some l' =>
      rw [q] at w2
      dsimp only at w2
      refine ⟨W3, cs2, l2, _, l', s3, lr3, r3, q, fun σ' lr' _ => ⟨W3, cs2, l', s3, lr', ?_⟩⟩
      have le13 := le2.trans le3
      cases qb : b l' cs2 with
      | no => rw [qb] at w2; exact w2.elim
      | go fl cs' =>
        rw [qb] at w2
        cases fl with
        | nx l4 => exact fun W4 σ4 H4 le4 s4 lr4 => ⟨W4, cs', l4, le13.trans le4, s4, lr4, w2⟩
        | ct l4 => exact fun W4 σ4 H4 le4 s4 lr4 => ⟨W4, cs', l4, le13.trans le4, s4, lr4, w2⟩
        | bk l4 => exact fun W4 σ4 H4 le4 s4 lr4 => w2 W4 σ4 H4 ((le1.trans le13).trans le4) s4 lr4
        | ret d4 => exact fun W4 v4 H4 le4 s4 o4 r4 => w2 W4 v4 H4 ((le1.trans le13).trans le4) s4 o4 r4
        | ex x4 l4 => exact w2
  · have e : i = ds.length := by omega
    subst e
    rw [List.drop_length] at w2
    exact .inl ⟨stop (Nat.le_refl _), w2 W2 σ H (le1.trans le2) s2 lr2⟩⟩
end
end F

/-! comprehensions -/
namespace F
open PySem PySem.Spec PyProof.Rows L2 Evl
def nox {α : Type} (m : EM α) : EM α := fun cs => match m cs with
  | .ok a cs' => .ok a cs'
  | _ => .no
theorem wp_nox {α : Type} {m : EM α} {cs : Cells} {Q : α → Cells → Prop} {E E' : Exn → Cells → Prop} (h : wp (nox m) cs Q E) : wp m cs Q E' := by
  unfold wp nox at h
  unfold wp
  cases e : m cs with
  | ok a cs' => rw [e] at h; exact h
  | exc x cs' => rw [e] at h; exact h.elim
  | no => rw [e] at h; exact h
def wipeL (l : Loc) : List Nat → Loc
  | [] => l
  | v :: vs => (wipeL l vs).set v .emp
def compL (g : XG) (t : XB) (e : XE) (l : Loc) : List D → EM (List D)
  | [] => rt []
  | d :: ds => fun cs => match g d l cs with
    | some l1 => bd (nox (t l1)) (fun b => if b = true then bd (nox (e l1)) fun y => bd (compL g t e l ds) fun ys => rt (y :: ys) else compL g t e l ds) cs
    | none => .no
def xLc (f : XA) (g : XG) (t : XB) (e : XE) (vs : List Nat) : XE := fun l => bd (f l) fun ds => bd (fit ds) fun _ => bd (compL g t e (wipeL l vs) ds) fun ys => rt (.lst ys)
def bYes : XB := fun _ => rt true
theorem wp_congr {α : Type} {m m' : EM α} {cs : Cells} {Q : α → Cells → Prop} {E : Exn → Cells → Prop} (e : m cs = m' cs) (h : wp m cs Q E) : wp m' cs Q E := by
  unfold wp at h ⊢
  rw [← e]
  exact h
theorem wp_comp {g : XG} {t : XB} {e : XE} {l : Loc} {d : D} {ds : List D} {cs : Cells} {Q : List D → Cells → Prop} {E : Exn → Cells → Prop} (h : wp (compL g t e l (d :: ds)) cs Q E) :
    ∃ l1, g d l cs = some l1 ∧ wp (t l1) cs (fun b cs1 => if b = true then wp (e l1) cs1 (fun y cs2 => wp (compL g t e l ds) cs2 (fun ys cs3 => Q (y :: ys) cs3) E) (fun _ _ => False) else wp (compL g t e l ds) cs1 Q E) fun _ _ => False := by
  cases q : g d l cs with
  | none =>
    have e : compL g t e l (d :: ds) cs = (no : EM (List D)) cs := by
      show (match g d l cs with | some l1 => _ | none => Out.no) = Out.no
      rw [q]
    exact (wp_congr e h).elim
  | some l1 =>
    have e : compL g t e l (d :: ds) cs = bd (nox (t l1)) (fun b => if b = true then bd (nox (e l1)) fun y => bd (compL g t e l ds) fun ys => rt (y :: ys) else compL g t e l ds) cs := by
      show (match g d l cs with | some l1 => _ | none => Out.no) = _
      rw [q]
    refine ⟨l1, rfl, wp_nox (E := E) (wp_imp (wp_bd.mp (wp_congr e h)) (fun b cs1 w => ?_) fun _ _ h => h)⟩
    cases b with
    | true => exact iteT (wp_nox (E := E) (wp_imp (wp_bd.mp w) (fun y cs2 w2 => wp_imp (wp_bd.mp w2) (fun ys cs3 w3 => w3) fun _ _ h => h) fun _ _ h => h))
    | false => exact iteF w
theorem Le.own (W : Wd) (O' : Hp) : Le W { W with O := O' } := ⟨Ex.refl _, fun _ _ h => h⟩
theorem Le.frz (W : Wd) {p : Addr} {o : HO} {O' : Hp} (h : W.G p = none) : Le W { W with G := upd W.G p o, O := O' } := ⟨Ex.new h, fun _ _ h => h⟩
section
variable {Z : Sx} {z : ZT} {B : Wd} {W W' : Wd} {l : Loc} {σ : L2.St} {H : Hp} {cs : Cells}
theorem LR.emp1 {i : Nat} (h : LR Z z B W l σ) : LR Z z B W (l.set i .emp) (σ.set i none) where
  len := by rw [List.length_set, List.length_set]; exact h.len
  sl := fun j s e => by
    by_cases hj : j = i
    · subst hj
      have hlt : j < l.length := by
        have := (List.getElem?_eq_some_iff.mp e).1
        rw [List.length_set] at this
        exact this
      rw [List.getElem?_set_self hlt] at e
      cases e
      exact True.intro
    · rw [List.getElem?_set_ne (Ne.symm hj)] at e ⊢
      exact h.sl j s e
  dj := fun j k c c' a h1 h2 h3 h4 => by
    have ne : ∀ {m : Nat} {cc : C}, (l.set i .emp)[m]? = some (.own cc) → m ≠ i := fun {m cc} e z => by
      subst z
      have hlt : m < l.length := by
        have := (List.getElem?_eq_some_iff.mp e).1
        rw [List.length_set] at this
        exact this
      rw [List.getElem?_set_self hlt] at e
      cases e
    have n1 := ne h1
    have n2 := ne h2
    rw [List.getElem?_set_ne (Ne.symm n1)] at h1 h3
    rw [List.getElem?_set_ne (Ne.symm n2)] at h2 h4
    exact h.dj j k c c' a h1 h2 h3 h4
  base := h.base
theorem LR.wipe (h : LR Z z B W l σ) : ∀ vs : List Nat, LR Z z B W (wipeL l vs) (L2.wipe σ vs)
  | [] => h
  | v :: vs => (LR.wipe h vs).emp1
theorem wipe_in {σ : L2.St} {j : Nat} : ∀ {vs : List Nat}, j ∈ vs → j < σ.length → (L2.wipe σ vs)[j]? = some none
  | [], h, _ => nomatch h
  | v :: vs, h, hl => by
    unfold L2.wipe
    by_cases e : j = v
    · subst e
      rw [List.getElem?_set_self (by rw [wipe_length]; exact hl)]
    · rw [List.getElem?_set_ne (Ne.symm e)]
      exact wipe_in (by simpa [e] using h) hl
theorem wipe_off {ts vs : List Nat} {σ σ2 : L2.St} (o : Off ts (L2.wipe σ vs) σ2) (hs : ∀ t ∈ ts, t ∈ vs) : L2.wipe σ2 vs = L2.wipe σ vs := by
  refine List.ext_getElem? fun j => ?_
  have hl : σ2.length = σ.length := o.1.trans (wipe_length σ vs)
  by_cases hj : j ∈ vs
  · by_cases hlt : j < σ.length
    · rw [wipe_in hj hlt, wipe_in hj (by rw [hl]; exact hlt)]
    · rw [List.getElem?_eq_none (by rw [wipe_length, hl]; omega), List.getElem?_eq_none (by rw [wipe_length]; omega)]
  · rw [wipe_out hj]
    exact o.2 j fun z => hj (hs j z)
/-- an owned object is new -/
theorem S.ownNew {p : Addr} {o : HO} (s : S Z W cs H) (h : H p = none) : S Z { W with O := upd W.O p o } cs (upd H p o) where
  g := s.g.trans (Ex.new h)
  o := E.ex_upd s.o p o
  dj := fun a u e => by
    by_cases ha : a = p
    · rw [ha]; exact s.freeG h
    · rw [show ({ W with O := upd W.O p o } : Wd).O a = W.O a from upd_ne ha] at e
      exact s.dj a u e
  len := s.len
  nd := s.nd
  al := fun a ha => by
    obtain ⟨u, e⟩ := s.al a ha
    exact ⟨u, by rw [upd_ne (ne_of_none e h)]; exact e⟩
  fo := fun a ha => by
    obtain ⟨u, e⟩ := s.al a ha
    show upd W.O p o a = none
    rw [upd_ne (ne_of_none e h)]
    exact s.fo a ha
  at_ := fun n a c e1 e2 e3 => by
    obtain ⟨g, u, e, r⟩ := s.at_ n a c e1 e2 e3
    have ne : a ≠ p := ne_of_none e h
    exact ⟨g, u, by rw [upd_ne ne]; exact e, r.mono (Le.own W _)⟩
/-- an owned object changes -/
theorem S.ownPut {p : Addr} {o o' : HO} (s : S Z W cs H) (h : W.O p = some o) : S Z { W with O := upd W.O p o' } cs (upd H p o') where
  g := s.g.mut (s.dj p o h)
  o := E.ex_upd s.o p o'
  dj := fun a u e => by
    by_cases ha : a = p
    · rw [ha]; exact s.dj p o h
    · rw [show ({ W with O := upd W.O p o' } : Wd).O a = W.O a from upd_ne ha] at e
      exact s.dj a u e
  len := s.len
  nd := s.nd
  al := fun a ha => by
    obtain ⟨u, e⟩ := s.al a ha
    by_cases hp : a = p
    · exact ⟨o', by rw [hp, upd_same]⟩
    · exact ⟨u, by rw [upd_ne hp]; exact e⟩
  fo := fun a ha => by
    have ne : a ≠ p := fun z => by rw [z] at ha; rw [s.fo p ha] at h; cases h
    show upd W.O p o' a = none
    rw [upd_ne ne]
    exact s.fo a ha
  at_ := fun n a c e1 e2 e3 => by
    obtain ⟨g, u, e, r⟩ := s.at_ n a c e1 e2 e3
    have ne : a ≠ p := fun z => by
      have ha : a ∈ W.i := List.mem_of_getElem? e1
      rw [z] at ha
      rw [s.fo p ha] at h
      cases h
    exact ⟨g, u, by rw [upd_ne ne]; exact e, r.mono (Le.own W _)⟩
/-- an owned object stands from now on for good -/
theorem S.ownFrz {p : Addr} {o : HO} {O' : Hp} (s : S Z W cs H) (h : W.O p = some o) (ho : Ex O' W.O) (hp : O' p = none) : S Z { W with G := upd W.G p o, O := O' } cs H where
  g := fun a u e => by
    by_cases ha : a = p
    · subst ha
      rw [show ({ W with G := upd W.G a o, O := O' } : Wd).G a = some o from upd_same] at e
      cases e
      exact s.o _ _ h
    · rw [show ({ W with G := upd W.G p o, O := O' } : Wd).G a = W.G a from upd_ne ha] at e
      exact s.g a u e
  o := ho.trans s.o
  dj := fun a u e => by
    have e' : O' a = some u := e
    have ne : a ≠ p := fun z => by rw [z, hp] at e'; cases e'
    show upd W.G p o a = none
    rw [upd_ne ne]
    exact s.dj a u (ho a u e')
  len := s.len
  nd := s.nd
  al := s.al
  fo := fun a ha => by
    show O' a = none
    cases q : O' a with
    | none => rfl
    | some u => rw [← s.fo a ha, ho a u q]
  at_ := fun n a c e1 e2 e3 => by
    obtain ⟨g, u, e, r⟩ := s.at_ n a c e1 e2 e3
    have ne : a ≠ p := fun z => by
      have ha : a ∈ W.i := List.mem_of_getElem? e1
      rw [z] at ha
      rw [s.fo p ha] at h
      cases h
    refine ⟨by show upd W.G p o a = none; rw [upd_ne ne]; exact g, u, e, r.mono (Le.frz W (s.dj p o h))⟩
theorem takes_no {X : Cx} {z : ZT} {B : Wd} : Takes X (wx (sx X) z B fun _ _ _ => False) := fun u s' ⟨_, _, _, _, _, _, _, _, _, _, _, _, _, _, _, _, w⟩ => by
  obtain ⟨_, _, _, _, _, _, _, h⟩ := w
  exact h.elim
end
section
variable {X : Cx} {z : ZT} {B : Wd} {f : XA} {g : XG} {t : XB} {e : XE} {vs ts : List Nat} {Er : Exn → Loc → Cells → Prop} {σ : L2.St} {H : Hp} {Q : VK}
def lcM (f : XA) (g : XG) (t : XB) (e : XE) (vs : List Nat) (l : Loc) : EM (List D) := bd (f l) fun ds => bd (fit ds) fun _ => compL g t e (wipeL l vs) ds
/-- what the machine says of a comprehension is what the walk asks -/
theorem lc_gen (hs : ∀ t ∈ ts, t ∈ vs) (h : ∃ W cs l, S (sx X) W cs H ∧ LR (sx X) z B W l σ ∧ wp (lcM f g t e vs l) cs (fun ys cs' => ∀ W' Dd acc H', Le W W' → W.O Dd = none → B.O Dd = none → W'.O = upd W.O Dd (.lst acc) → S (sx X) W' cs' H' → RepA (sx X) W' acc ys → Q (.ref Dd) H') (fun x cs' => Er x l cs')) :
    tLc (tIx (sx X) z B f Er) (tG (sx X) z B ts g) (tB (sx X) z B t fun _ _ _ => False) (tE (sx X) z B e fun _ _ _ => False) vs σ H Q := by
  obtain ⟨W, cs, l, s, lr, w⟩ := h
  refine ⟨W, cs, l, s, lr, wp_imp (wp_bd.mp w) (fun ds cs1 w1 W1 J H1 le1 o1 s1 wk => ?_) fun _ _ h => h⟩
  obtain ⟨hfit, w1⟩ := wp_fit (wp_bd.mp w1)
  intro Dd hD
  have s2 := s1.ownNew (o := .lst []) hD
  have lr0 : LR (sx X) z B W1 (wipeL l vs) (wipe σ vs) := (lr.mono le1 o1).wipe vs
  have hBD : B.O Dd = none := fresh_back lr0.base.2 (s1.freeO hD)
  refine ⟨fun i m H => ∃ W2 cs2 acc accD, Le W1 W2 ∧ W2.O = upd W1.O Dd (.lst acc) ∧ S (sx X) W2 cs2 H ∧ RepA (sx X) W2 acc accD ∧ m = ds.length - i ∧ i ≤ ds.length ∧ acc.length ≤ i ∧
    wp (compL g t e (wipeL l vs) (ds.drop i)) cs2 (fun ys cs' => ∀ W' Dd acc H', Le W W' → W.O Dd = none → B.O Dd = none → W'.O = upd W.O Dd (.lst acc) → S (sx X) W' cs' H' → RepA (sx X) W' acc (accD ++ ys) → Q (.ref Dd) H') (fun x cs' => Er x l cs'),
    ⟨_, { W1 with O := upd W1.O Dd (.lst []) }, cs1, [], [], ⟨Ex.refl _, fun _ _ h => h⟩, rfl, s2, .nil, rfl, Nat.zero_le _, Nat.le_refl _, w1⟩, ?_⟩
  rintro i m H ⟨W2, cs2, acc, accD, le2, o2, s2, ra, rfl, hi, hacc, w2⟩
  have aD : W2.O Dd = some (.lst acc) := by rw [o2]; exact upd_same
  obtain ⟨go, stop⟩ := wk W2 cs2 H le2 s2 i
  by_cases hlt : i < ds.length
  · refine .inr ?_
    obtain ⟨g1, y1⟩ := go _ (List.getElem?_eq_getElem hlt)
    rw [List.drop_eq_getElem_cons hlt] at w2
    refine ⟨g1, fun H' => ∃ W3 cs3 acc accD, Le W1 W3 ∧ W3.O = upd W1.O Dd (.lst acc) ∧ S (sx X) W3 cs3 H' ∧ RepA (sx X) W3 acc accD ∧ acc.length ≤ i + 1 ∧
      wp (compL g t e (wipeL l vs) (ds.drop (i + 1))) cs3 (fun ys cs' => ∀ W' Dd acc H', Le W W' → W.O Dd = none → B.O Dd = none → W'.O = upd W.O Dd (.lst acc) → S (sx X) W' cs' H' → RepA (sx X) W' acc (accD ++ ys) → Q (.ref Dd) H') (fun x cs' => Er x l cs'),
      fun H' ⟨W3, cs3, a3, d3, h1, h2, h3, h4, h5, h6⟩ => ⟨ds.length - (i + 1), by omega, W3, cs3, a3, d3, h1, h2, h3, h4, rfl, hlt, h5, h6⟩, fun x H' y => ?_⟩
    obtain ⟨W3, le3, o3, s3, r3⟩ := y1 x H' y
    have e3 : W3.O = upd W1.O Dd (.lst acc) := o3.trans o2
    have lr3 : LR (sx X) z B W3 (wipeL l vs) (wipe σ vs) := ⟨lr0.len, fun j s h => by
      have q := lr0.sl j s h
      have le13 := le2.trans le3
      cases s with
      | emp => exact True.intro
      | val d => obtain ⟨u, h1, h2⟩ := q; exact ⟨u, h1, h2.mono le13⟩
      | own c =>
        obtain ⟨a, o, h1, h2, h3, h4⟩ := q
        have ne : a ≠ Dd := fun z => by rw [z, s1.freeO hD] at h2; cases h2
        exact ⟨a, o, h1, by rw [e3, upd_ne ne]; exact h2, h3, h4.mono le13⟩
      | me d => obtain ⟨a, h1, h2, h3⟩ := q; exact ⟨a, h1, h2, h3.mono le13⟩
      | exn x => obtain ⟨a, c, d, h1, h2, h3⟩ := q; exact ⟨a, c, d, h1, h2, h3.mono le13⟩, lr0.dj, lr0.base.1.trans (le2.trans le3), fun a u h => by
        have ne : a ≠ Dd := fun z => by rw [z, hBD] at h; cases h
        rw [e3, upd_ne ne]
        exact lr0.base.2 a u h⟩
    obtain ⟨l1, q, w2⟩ := wp_comp w2
    refine ⟨W3, cs2, wipeL l vs, _, l1, s3, lr3, r3, q, fun σ2 lr2 off => ⟨wipe_off off hs, W3, cs2, l1, s3, lr2, wp_imp w2 (fun b cs3 w3 W4 H4 le4 o4 s4 => ?_) fun _ _ h => h⟩⟩
    cases b with
    | true =>
      refine iteT ⟨W4, cs3, l1, s4, lr2.mono le4 o4, wp_imp w3 (fun y cs4 w4 W5 v H5 le5 o5 s5 r5 => ?_) fun _ _ h => h⟩
      have e5 : W5.O = upd W1.O Dd (.lst acc) := o5.trans (o4.trans e3)
      have a5 : W5.O Dd = some (.lst acc) := by rw [e5]; exact upd_same
      have l5 : Le W2 W5 := (le3.trans le4).trans le5
      refine ⟨acc, s5.o _ _ a5, Nat.lt_of_lt_of_le (Nat.lt_of_le_of_lt hacc hlt) hfit, { W5 with O := upd W5.O Dd (.lst (acc ++ [v])) }, cs4, acc ++ [v], accD ++ [y], (le2.trans l5).trans (Le.own W5 _), by
        show upd W5.O Dd _ = _
        rw [e5, upd_upd], s5.ownPut a5, ((ra.mono l5).append (.cons r5 .nil)).mono (Le.own W5 _), by rw [List.length_append]; simp; exact hacc, ?_⟩
      refine wp_imp w4 (fun ys cs' k => ?_) fun _ _ h => h
      rw [List.append_assoc]
      exact k
    | false =>
      have l4 : Le W2 W4 := le3.trans le4
      exact iteF ⟨W4, cs3, acc, accD, le2.trans l4, o4.trans e3, s4, ra.mono l4, by omega, w3⟩
  · have ei : i = ds.length := by omega
    subst ei
    rw [List.drop_length] at w2
    refine .inl ⟨stop (Nat.le_refl _), ?_⟩
    have w2' : ∀ W' Dd acc H', Le W W' → W.O Dd = none → B.O Dd = none → W'.O = upd W.O Dd (.lst acc) → S (sx X) W' cs2 H' → RepA (sx X) W' acc (accD ++ []) → Q (.ref Dd) H' := w2
    rw [List.append_nil] at w2'
    exact w2' W2 Dd acc H (le1.trans le2) (by rw [← o1]; exact s1.freeO hD) hBD (by rw [o2, o1]) s2 ra
theorem lc_read (hs : ∀ t ∈ ts, t ∈ vs) (h : tE (sx X) z B (xLc f g t e vs) Er σ H Q) :
    tLc (tIx (sx X) z B f Er) (tG (sx X) z B ts g) (tB (sx X) z B t fun _ _ _ => False) (tE (sx X) z B e fun _ _ _ => False) vs σ H Q := by
  obtain ⟨W, cs, l, s, lr, w⟩ := h
  refine lc_gen hs ⟨W, cs, l, s, lr, ?_⟩
  refine wp_bd.mpr (wp_imp (wp_bd.mp w) (fun ds cs1 w1 => ?_) fun _ _ h => h)
  refine wp_bd.mpr (wp_imp (wp_bd.mp w1) (fun _ cs2 w2 => ?_) fun _ _ h => h)
  refine wp_imp (wp_bd.mp w2) (fun ys cs3 w3 W' Dd acc H' le hO hB o' s' ra => ?_) fun _ _ h => h
  have aD : W'.O Dd = some (.lst acc) := by rw [o']; exact upd_same
  have hE : Ex W.O W'.O := by rw [o']; exact Ex.new hO
  exact w3 { W' with G := upd W'.G Dd (.lst acc), O := W.O } (.ref Dd) H' (le.trans (Le.frz W' (s'.dj Dd _ aD))) rfl (s'.ownFrz aD hE hO) (.lst upd_same (ra.mono (Le.frz W' (s'.dj Dd _ aD))))
end
section
variable {X : Cx} {z : ZT} {elt tg iter : Expr} {ifs : List Expr} {scope : Scope} {own : List (Str × Nat)} {pos : Pos} {f : XA} {g : XG} {t : XB} {e : XE} {ts : List Nat}
structure JTs (X : Cx) (z : ZT) (ifs : List Expr) (f : XB) : Prop where
  run : ∀ (B : Wd) (E : Exn → Loc → Cells → Prop), Takes X (wx (sx X) z B E) → PTs X ifs (tB (sx X) z B f E)
theorem jts_nil : JTs X z [] bYes := ⟨fun B Er tk => ⟨fun pins s σ H Q I ⟨W, cs, l, ss, lr, w⟩ => pts_nil.run pins s σ H Q I (w W H (Le.refl _) rfl ss)⟩⟩
theorem jts_one {c : Expr} (h : JT X z c t) : JTs X z [c] t := ⟨fun B Er tk => pts_one (h.run B Er tk)⟩
theorem je_lc (hc : X.calm = true) (hN : X.N.Nodup) (hi : JI X z tg iter f) (ok : BlkOk X.N X.env.scope scope own) (hg : ∀ (s : Shared) (H : Hp) (C : Addr) (cl : List (Str × Addr)) (fp : List Addr), JG (X.blk s H scope (compEnvC scope cl C X.env) fp) z tg ts g)
    (ht : ∀ (s : Shared) (H : Hp) (C : Addr) (cl : List (Str × Addr)) (fp : List Addr), JTs (X.blk s H scope (compEnvC scope cl C X.env) fp) z ifs t) (he : ∀ (s : Shared) (H : Hp) (C : Addr) (cl : List (Str × Addr)) (fp : List Addr), JE (X.blk s H scope (compEnvC scope cl C X.env) fp) z elt e)
    (hv : ∀ t ∈ ts, t ∈ own.map (·.2) := by decide) (hs : ∀ x, foldedSetIterable iter X.env x = pure x := by intro _; rfl) : JE X z (.ListComp elt [⟨tg, iter, ifs, 0⟩] scope pos) (xLc f g t e (own.map (·.2))) :=
  ⟨fun B Er tk => pe_imp (pe_lc hc hN (hi.run B Er tk) ok (fun s H C cl fp => (hg s H C cl fp).run B) (fun s H C cl fp => (ht s H C cl fp).run B _ takes_no) (fun s H C cl fp => (he s H C cl fp).run B _ takes_no) hs) fun σ H Q h => lc_read (X := X) hv h⟩
theorem js_setLc {i : Nat} {y : Str} {py spos : Pos} (hc : X.calm = true) (hN : X.N.Nodup) (hy : X.N[i]? = some y) (hyl : X.env.scope.names.lookup y = some .local)
    (hsw : swapsWith (.ListComp elt [⟨tg, iter, ifs, 0⟩] scope pos) (some (.Name y py)) spos.line X.env = pure true) (hi : JI X z tg iter f) (ok : BlkOk X.N X.env.scope scope own) (hg : ∀ (s : Shared) (H : Hp) (C : Addr) (cl : List (Str × Addr)) (fp : List Addr), JG (X.blk s H scope (compEnvC scope cl C X.env) fp) z tg ts g)
    (ht : ∀ (s : Shared) (H : Hp) (C : Addr) (cl : List (Str × Addr)) (fp : List Addr), JTs (X.blk s H scope (compEnvC scope cl C X.env) fp) z ifs t) (he : ∀ (s : Shared) (H : Hp) (C : Addr) (cl : List (Str × Addr)) (fp : List Addr), JE (X.blk s H scope (compEnvC scope cl C X.env) fp) z elt e)
    (hv : ∀ t ∈ ts, t ∈ own.map (·.2) := by decide) (hs : ∀ x, foldedSetIterable iter X.env x = pure x := by intro _; rfl) : JS X z (.Assign [.Name y py] (.ListComp elt [⟨tg, iter, ifs, 0⟩] scope pos) spos) (sSet i (xLc f g t e (own.map (·.2)))) :=
  ⟨fun B Er tk => ps_imp (ps_setLc hc hN hy hyl hsw (hi.run B Er tk) ok (fun s H C cl fp => (hg s H C cl fp).run B) (fun s H C cl fp => (ht s H C cl fp).run B _ takes_no) (fun s H C cl fp => (he s H C cl fp).run B _ takes_no) hs) fun D σ H ⟨W, cs, l, s, lr, w⟩ =>
    lc_read (X := X) hv ⟨W, cs, l, s, lr, wp_imp (wpS_onE.mp w) (fun d cs1 w1 W1 v1 H1 le1 o1 s1 r1 => w1 W1 _ H1 le1 s1 ((lr.mono le1 o1).set r1)) fun _ _ h => h⟩⟩
end
end F

/-! cells, owned things, attributes -/
namespace F
open PySem PySem.Spec PyProof.Rows L2 Evl
section
variable {Z : Sx} {z : ZT} {B : Wd} {W W' : Wd} {l : Loc} {σ : L2.St} {H : Hp} {cs : Cells}
/-! ### cells -/
abbrev Wd.cel (W : Wd) (p : Addr) : Wd := { W with i := W.i ++ [p] }
theorem Le.cel (W : Wd) (p : Addr) : Le W (W.cel p) := ⟨Ex.refl _, fun n a h => by
  have hlt := (List.getElem?_eq_some_iff.mp h).1
  show (W.i ++ [p])[n]? = some a
  rw [List.getElem?_append_left hlt]
  exact h⟩
theorem S.cell {p : Addr} {o : HO} {c : C} (s : S Z W cs H) (h : H p = none) (r : RepC Z (W.cel p) p o c) : S Z (W.cel p) (cs ++ [c]) (upd H p o) where
  g := s.g.trans (Ex.new h)
  o := s.o.trans (Ex.new h)
  dj := s.dj
  len := by rw [List.length_append, List.length_append, s.len]; rfl
  nd := by
    show (W.i ++ [p]).Nodup
    refine List.nodup_append.mpr ⟨s.nd, by simp, fun a ha b hb => ?_⟩
    have eb : b = p := by simpa using hb
    subst eb
    exact fun z => s.freeI h (z ▸ ha)
  al := fun a ha => by
    rcases List.mem_append.mp ha with ha | ha
    · obtain ⟨u, e⟩ := s.al a ha
      exact ⟨u, by rw [upd_ne (ne_of_none e h)]; exact e⟩
    · have ea : a = p := by simpa using ha
      subst ea
      exact ⟨o, upd_same⟩
  fo := fun a ha => by
    rcases List.mem_append.mp ha with ha | ha
    · exact s.fo a ha
    · have ea : a = p := by simpa using ha
      subst ea
      exact s.freeO h
  at_ := fun n a c' e1 e2 e3 => by
    by_cases hn : n < cs.length
    · rw [List.getElem?_append_left hn] at e2
      have e1' : (W.i ++ [p])[n]? = some a := e1
      rw [List.getElem?_append_left (by rw [s.len]; exact hn)] at e1'
      obtain ⟨g, u, e, r'⟩ := s.at_ n a c' e1' e2 e3
      exact ⟨g, u, by rw [upd_ne (ne_of_none e h)]; exact e, r'.mono (Le.cel W p)⟩
    · have hl := (List.getElem?_eq_some_iff.mp e2).1
      rw [List.length_append] at hl
      have en : n = cs.length := by simp at hl; omega
      subst en
      rw [List.getElem?_append_right (Nat.le_refl _)] at e2
      simp at e2
      subst e2
      have e1' : (W.i ++ [p])[cs.length]? = some a := e1
      rw [← s.len, List.getElem?_append_right (Nat.le_refl _)] at e1'
      simp at e1'
      subst e1'
      exact ⟨s.freeG h, o, upd_same, r⟩
/-- a cell changes -/
theorem S.put {n : Nat} {a : Addr} {o : HO} {c c' : C} (s : S Z W cs H) (h : W.i[n]? = some a) (hc : cs[n]? = some c) (hd : c ≠ .dead) (r : RepC Z W a o c') : S Z W (cs.set n c') (upd H a o) where
  g := s.g.mut (s.at_ n a c h hc hd).1
  o := s.o.mut (s.fo a (List.mem_of_getElem? h))
  dj := s.dj
  len := by rw [List.length_set]; exact s.len
  nd := s.nd
  al := fun b hb => by
    by_cases e : b = a
    · exact ⟨o, by rw [e, upd_same]⟩
    · obtain ⟨u, q⟩ := s.al b hb
      exact ⟨u, by rw [upd_ne e]; exact q⟩
  fo := s.fo
  at_ := fun m b k e1 e2 e3 => by
    by_cases hm : m = n
    · subst hm
      rw [h] at e1
      cases e1
      rw [List.getElem?_set_self (List.getElem?_eq_some_iff.mp hc).1] at e2
      cases e2
      exact ⟨(s.at_ m a c h hc hd).1, o, upd_same, r⟩
    · rw [List.getElem?_set_ne (Ne.symm hm)] at e2
      obtain ⟨g, u, e, r'⟩ := s.at_ m b k e1 e2 e3
      have ne : b ≠ a := fun z => by
        subst z
        obtain ⟨h1, q1⟩ := List.getElem?_eq_some_iff.mp e1
        obtain ⟨h2, q2⟩ := List.getElem?_eq_some_iff.mp h
        exact hm ((List.getElem_inj s.nd).mp (q1.trans q2.symm))
      exact ⟨g, u, by rw [upd_ne ne]; exact e, r'⟩
end
def newC (c : C) : EM D := fun cs => .ok (.cel cs.length) (cs ++ [c])
theorem wp_newC {c : C} {cs : Cells} {Q : D → Cells → Prop} {E : Exn → Cells → Prop} : wp (newC c) cs Q E ↔ Q (.cel cs.length) (cs ++ [c]) := Iff.rfl
theorem rep_last {Z : Sx} {W : Wd} {cs : Cells} {H : Hp} {p : Addr} (s : S Z W cs H) : Rep Z (W.cel p) (.ref p) (.cel cs.length) := .cel (by
  show (W.i ++ [p])[cs.length]? = some p
  rw [← s.len, List.getElem?_append_right (Nat.le_refl _)]
  simp)
def xLstC (f : XA) : XE := fun l => bd (f l) fun ds => newC (.lst ds)
def xListC (f : XE) : XE := fun l => bd (f l) fun d => bd (rd fun cs => seqOf cs d) fun xs => newC (.lst xs)
section
variable {X : Cx} {z : ZT} {e : Expr} {es : List Expr} {fa : XE} {f : XA} {pos p : Pos}
theorem je_lstC (h : JL X z es f) (hl : es.length ≤ sizeLine := by decide +kernel) : JE X z (.List es pos) (xLstC f) := ⟨fun B Er tk => pe_imp (pe_lst (h.ja.run B Er tk)) fun σ H Q ⟨W, cs, l, s, lr, w⟩ => by
  refine ⟨W, cs, l, s, lr, wp_imp (wp_len (wp_bd.mp w) (h.len l cs)) (fun ds cs1 ⟨ln, w1⟩ W1 vs H1 le1 o1 s1 r1 => ?_) fun _ _ h => h⟩
  exact ⟨by rw [r1.length, ln]; exact hl, fun q hq => w1 _ _ _ (le1.trans (Le.cel W1 q)) o1 (s1.cell (c := .lst ds) hq ⟨vs, rfl, r1.mono (Le.cel W1 q)⟩) (rep_last s1)⟩⟩
theorem je_listC (hg : Gl X "list") (hm : X.mg "list" = none) (h : JE X z e fa) (hs : starEach [e] X.env = [(false, eval e X.env)] := by rfl) : JE X z (.Call (.Name "list" p) [e] [] pos) (xListC fa) :=
  ⟨fun B Er tk => pe_imp (pe_callTy call_list_of hg hm (by decide +kernel) ((ja_cons h ja_nil hs).run B Er tk) (by decide) (by decide) hs rfl) fun σ H Q ⟨W, cs, l, s, lr, w⟩ => by
  refine ⟨W, cs, l, s, lr, wp_bd.mpr (wp_imp (wp_bd.mp w) (fun d cs1 w1 => ?_) fun _ _ h => h)⟩
  obtain ⟨xs, hx, w2⟩ := wp_rd.mp (wp_bd.mp w1)
  intro W1 vs H1 le1 o1 s1 r1
  cases r1 with
  | cons r1 r2 =>
    cases r2
    obtain ⟨a, us, rfl, hq, ra⟩ := seq_ok s1 r1 hx
    exact ⟨a, us, rfl, hq, fun q hp => w2 _ _ _ (le1.trans (Le.cel W1 q)) o1 (s1.cell (c := .lst xs) hp ⟨us, rfl, ra.mono (Le.cel W1 q)⟩) (rep_last s1)⟩⟩
end
/-- o[i] = v, o a cell -/
def setC (o i v : D) : EM Unit := fun cs => match o, i with
  | .cel n, .int k => match celL cs n with
    | some xs => match ixN xs.length k with
      | some j => .ok () (cs.set n (.lst (xs.set j v)))
      | none => .no
    | none => .no
  | _, _ => .no
def sSetI (fv fo fi : XE) : XS := fun l cs => onE (fv l) l cs fun v cs1 => onE (fo l) l cs1 fun o cs2 => onE (fi l) l cs2 fun i cs3 => onE (setC o i v) l cs3 fun _ cs4 => .go (.nx l) cs4
theorem js_setI {X : Cx} {z : ZT} {o i e : Expr} {fv fo fi : XE} {tpos pos : Pos} (ho : JE X z o fo) (hi : JE X z i fi) (hv : JE X z e fv)
    (ha : ∀ v, assign (.Subscript o i tpos) X.env v = (do
      let ov ← holding [v] (eval o X.env)
      let iv ← holding [v, ov] (eval i X.env)
      standAt tpos
      holding [v, ov, iv] (setItem ov iv v)
      release [v, ov, iv] []) := by intro _; rfl)
    (hs : swapsWithSole [.Subscript o i tpos] e pos.line X.env = pure false := by rfl) (hw : swappedStores [.Subscript o i tpos] e X.env = pure none := by rfl)
    (h1 : (assignEach [.Subscript o i tpos] X.env).map (·.2) = [assign (.Subscript o i tpos) X.env] := by rfl) : JS X z (.Assign [.Subscript o i tpos] e pos) (sSetI fv fo fi) :=
  ⟨fun B Er tk => ps_imp (ps_asg (hv.run B Er tk) (pg_sub (ho.run B Er tk) (hi.run B Er tk) set_list ha) hs hw h1) fun D σ H ⟨W, cs, l, s, lr, w⟩ => by
  refine ⟨W, cs, l, s, lr, wp_imp (wpS_onE.mp w) (fun v cs1 w1 W1 v1 H1 le1 o1 s1 r1 => ?_) fun _ _ h => h⟩
  refine ⟨W1, cs1, l, s1, lr.mono le1 o1, wp_imp (wpS_onE.mp w1) (fun o cs2 w2 W2 v2 H2 le2 o2 s2 r2 => ?_) fun _ _ h => h⟩
  refine ⟨W2, cs2, l, s2, lr.mono (le1.trans le2) (o2.trans o1), wp_imp (wpS_onE.mp w2) (fun i cs3 w3 W3 v3 H3 le3 o3 s3 r3 => ?_) fun _ _ h => h⟩
  have w4 := wpS_onE.mp w3
  unfold wp setC at w4
  split at w4
  case h_1 a cs4 q =>
    split at q
    · rename_i n k
      split at q
      · rename_i xs qx
        split at q
        · rename_i j qj
          cases q
          cases rep_int r3
          have r2' := r2.mono le3
          cases r2' with
          | cel hi =>
            obtain ⟨us, h1, ra, g, hc⟩ := celL_ok s3 hi qx
            exact ⟨_, us, k, j, rfl, rfl, h1, by rw [ra.length]; exact qj, w4 W3 σ _ ((le1.trans le2).trans le3) (s3.put hi hc (fun z => nomatch z) ⟨us.set j v1, rfl, ra.set (r1.mono (le2.trans le3)) j⟩) (lr.mono ((le1.trans le2).trans le3) (o3.trans (o2.trans o1)))⟩
        · cases q
      · cases q
    · cases q
  case h_2 x cs4 q =>
    split at q
    · split at q
      · split at q
        · cases q
        · cases q
      · cases q
    · cases q
  case h_3 => exact w4.elim⟩
/-- o.m(..), o a cell that is a list -/
def isLC (o : D) (cs : Cells) : Option Unit := match o with
  | .cel n => (celL cs n).map fun _ => ()
  | _ => none
def updC (o : D) (h : List D → Option (List D)) : EM D := fun cs => match o with
  | .cel n => match celL cs n with
    | some xs => match h xs with
      | some ys => .ok .non (cs.set n (.lst ys))
      | none => .no
    | none => .no
  | _ => .no
theorem wp_updC {n : Nat} {h : List D → Option (List D)} {cs : Cells} {Q : D → Cells → Prop} {E : Exn → Cells → Prop} (w : wp (updC (.cel n) h) cs Q E) : ∃ xs ys, celL cs n = some xs ∧ h xs = some ys ∧ Q .non (cs.set n (.lst ys)) := by
  have e : updC (.cel n) h cs = (match celL cs n with
    | some xs => (match h xs with
      | some ys => Out.ok D.non (cs.set n (.lst ys))
      | none => .no)
    | none => .no) := rfl
  unfold wp at w
  rw [e] at w
  cases q : celL cs n with
  | none => rw [q] at w; exact w.elim
  | some xs =>
    rw [q] at w
    dsimp only at w
    cases q2 : h xs with
    | none => rw [q2] at w; exact w.elim
    | some ys => rw [q2] at w; exact ⟨xs, ys, rfl, q2, w⟩
def xMut (g : List D → List D → Option (List D)) (fo : XE) (fa : XA) : XE := fun l => bd (fo l) fun o => bd (rd (isLC o)) fun _ => bd (fa l) fun ds => updC o fun xs => g xs ds
def gApp (xs ds : List D) : Option (List D) := match ds with
  | [d] => if xs.length < 1000000 then some (xs ++ [d]) else none
  | _ => none
def gIns (xs ds : List D) : Option (List D) := match ds with
  | [.int i, d] => if xs.length < 1000000 ∧ 0 ≤ i ∧ i < 1000000 then some (xs.take i.toNat ++ [d] ++ xs.drop i.toNat) else none
  | _ => none
/-- a method of lists that changes the list by g -/
def MutR (Z : Sx) (r : V → List V → Hp → VK → Prop) (g : List D → List D → Option (List D)) : Prop := ∀ (W : Wd) (a : Addr) (us vs : List V) (xs ds ys : List D) (H : Hp) (Q : VK), H a = some (.lst us) → RepA Z W us xs → RepA Z W vs ds → g xs ds = some ys → (∀ ws, RepA Z W ws ys → Q .non (upd H a (.lst ws))) → r (.ref a) vs H Q
theorem mut_app {Z : Sx} : MutR Z rAppend gApp := fun W a us vs xs ds ys H Q h ru rv e k => by
  unfold gApp at e
  split at e
  · rename_i d
    split at e
    · rename_i c
      cases e
      cases rv with
      | cons r1 r2 =>
        cases r2
        exact ⟨a, us, _, rfl, rfl, h, by rw [ru.length]; exact Nat.lt_of_lt_of_le c (by decide), k _ (ru.append (.cons r1 .nil))⟩
    · cases e
  · cases e
def rInsD : V → List V → Hp → VK → Prop := fun x vs H Q => ∃ (l : Addr) (xs : List V) (i : Int) (y : V), x = .ref l ∧ vs = [.int i, y] ∧ H l = some (.lst xs) ∧ xs.length < sizeLine ∧ 0 ≤ i ∧ i < 2 ^ 63 ∧ Q .non (upd H l (.lst (xs.take i.toNat ++ [y] ++ xs.drop i.toNat)))
theorem mut_ins {Z : Sx} : MutR Z rInsD gIns := fun W a us vs xs ds ys H Q h ru rv e k => by
  unfold gIns at e
  split at e
  · rename_i i d
    split at e
    · rename_i c
      cases e
      cases rv with
      | cons r1 r2 =>
        cases r2 with
        | cons r2 r3 =>
          cases r3
          cases rep_int r1
          exact ⟨a, us, i, _, rfl, rfl, h, by rw [ru.length]; exact Nat.lt_of_lt_of_le c.1 (by decide), c.2.1, by have := c.2.2; omega, k _ (((ru.take _).append (.cons r2 .nil)).append (ru.drop _))⟩
    · cases e
  · cases e
section
variable {X : Cx} {z : ZT} {o e : Expr} {es : List Expr} {fo : XE} {f : XA} {r : V → List V → Hp → VK → Prop} {g : List D → List D → Option (List D)} {st : Stmt}
theorem je_mut (hp : ∀ {to : TE} {t : TA}, PE X o to → PA X es t → PE X e (tBM X.K "list" r to t)) (hr : MutR (sx X) r g) (ho : JE X z o fo) (ha : JA X z es f) : JE X z e (xMut g fo f) := ⟨fun B Er tk => pe_imp (hp (ho.run B Er tk) (ha.run B Er tk)) fun σ H Q ⟨W, cs, l, s, lr, w⟩ => by
  refine ⟨W, cs, l, s, lr, wp_imp (wp_bd.mp w) (fun o cs1 w1 W1 v1 H1 le1 o1 s1 r1 => ?_) fun _ _ h => h⟩
  obtain ⟨_, hk, w1⟩ := wp_rd.mp (wp_bd.mp w1)
  cases r1 with
  | @cel n a hi =>
    have hk' : ((celL cs1 n).map fun _ => ()) = some () := hk
    cases q : celL cs1 n with
    | none => rw [q] at hk'; cases hk'
    | some xs =>
      obtain ⟨us, h1, _⟩ := celL_ok s1 hi q
      refine ⟨Or.inl ⟨rfl, us, sq_of h1⟩, W1, cs1, l, s1, lr.mono le1 o1, wp_imp (wp_bd.mp w1) (fun ds cs2 w2 W2 vs H2 le2 o2 s2 r2 => ?_) fun _ _ h => h⟩
      obtain ⟨ys, ts, qy, qt, w3⟩ := wp_updC w2
      have hi2 := le2.i _ _ hi
      obtain ⟨us2, h2, ra, g0, hc⟩ := celL_ok s2 hi2 qy
      exact hr W2 a us2 vs ys ds ts H2 Q h2 ra r2 qt fun ws rw' => w3 W2 .non _ (le1.trans le2) (o2.trans o1) (s2.put hi2 hc (fun z => nomatch z) ⟨ws, rfl, rw'⟩) .non
  | _ => cases hk⟩
end
/-! ### owned things -/
section
variable {Z : Sx} {z : ZT} {B : Wd} {W W' : Wd} {l : Loc} {σ : L2.St} {H : Hp} {cs : Cells}
/-- slot i owns what is now at a -/
theorem LR.ownSet {i : Nat} {a : Addr} {o : HO} {c c' : C} (h : LR Z z B W l σ) (hi : l[i]? = some (.own c)) (ha : σ[i]? = some (some (.ref a))) (r : RepC Z W a o c') (hc : isIns c' = isIns c := by rfl) : LR Z z B { W with O := upd W.O a o } (l.set i (.own c')) σ := by
  obtain ⟨a', o', e, h2, h3, _⟩ := h.sl i _ hi
  rw [ha] at e
  cases e
  refine ⟨by rw [List.length_set]; exact h.len, fun j s e => ?_, fun j k c1 c2 b h1 h2 h3 h4 => ?_, h.base.1.trans (Le.own W _), fun b u e => ?_⟩
  · by_cases hj : j = i
    · subst hj
      rw [List.getElem?_set_self (List.getElem?_eq_some_iff.mp hi).1] at e
      cases e
      exact ⟨a, o, ha, upd_same, ⟨h3.1, fun z => h3.2 (hc ▸ z)⟩, r.mono (Le.own W _)⟩
    · rw [List.getElem?_set_ne (Ne.symm hj)] at e
      have q := h.sl j s e
      cases s with
      | emp => exact True.intro
      | val d => obtain ⟨u, h1, h2⟩ := q; exact ⟨u, h1, h2.mono (Le.own W _)⟩
      | own c1 =>
        obtain ⟨b, o1, h4, h5, h6, h7⟩ := q
        have ne : b ≠ a := fun z => by
          subst z
          exact hj (h.dj j i c1 c b e hi h4 ha)
        exact ⟨b, o1, h4, by show upd W.O a o b = some o1; rw [upd_ne ne]; exact h5, h6, h7.mono (Le.own W _)⟩
      | me d => obtain ⟨b, h1, h2, h3⟩ := q; exact ⟨b, h1, h2, h3.mono (Le.own W _)⟩
      | exn x => obtain ⟨b, c1, d, h1, h2, h3⟩ := q; exact ⟨b, c1, d, h1, h2, h3.mono (Le.own W _)⟩
  · have get : ∀ {m : Nat} {cc : C}, (l.set i (.own c'))[m]? = some (.own cc) → ∃ cc', l[m]? = some (.own cc') := fun {m cc} e => by
      by_cases hm : m = i
      · subst hm; exact ⟨c, hi⟩
      · rw [List.getElem?_set_ne (Ne.symm hm)] at e; exact ⟨cc, e⟩
    obtain ⟨d1, q1⟩ := get h1
    obtain ⟨d2, q2⟩ := get h2
    exact h.dj j k d1 d2 b q1 q2 h3 h4
  · have ne : b ≠ a := fun z => by rw [z, h3.1] at e; cases e
    show upd W.O a o b = some u
    rw [upd_ne ne]
    exact h.base.2 b u e
/-- slot i gets a new owned thing -/
theorem LR.ownNew {i : Nat} {p : Addr} {o : HO} {c : C} (h : LR Z z B W l σ) (s : S Z W cs H) (hp : H p = none) (r : RepC Z W p o c) (hc : isIns c = false := by rfl) : LR Z z B { W with O := upd W.O p o } (l.set i (.own c)) (σ.set i (some (.ref p))) := by
  have fO := s.freeO hp
  have fB : B.O p = none := fresh_back h.base.2 fO
  have old : ∀ {j : Nat} {s' : Sl}, l[j]? = some s' → SlOk Z z B { W with O := upd W.O p o } s' (σ[j]?) := fun {j s'} e => by
    have q := h.sl j s' e
    cases s' with
    | emp => exact True.intro
    | val d => obtain ⟨u, h1, h2⟩ := q; exact ⟨u, h1, h2.mono (Le.own W _)⟩
    | own c1 =>
      obtain ⟨b, o1, h4, h5, h6, h7⟩ := q
      have ne : b ≠ p := fun z => by rw [z, fO] at h5; cases h5
      exact ⟨b, o1, h4, by show upd W.O p o b = some o1; rw [upd_ne ne]; exact h5, h6, h7.mono (Le.own W _)⟩
    | me d => obtain ⟨b, h1, h2, h3⟩ := q; exact ⟨b, h1, h2, h3.mono (Le.own W _)⟩
    | exn x => obtain ⟨b, c1, d, h1, h2, h3⟩ := q; exact ⟨b, c1, d, h1, h2, h3.mono (Le.own W _)⟩
  have lt : ∀ {m : Nat} {s' : Sl}, (l.set i (.own c))[m]? = some s' → m < l.length := fun {m s'} e => by
    have := (List.getElem?_eq_some_iff.mp e).1
    rw [List.length_set] at this
    exact this
  have notp : ∀ {m : Nat} {c1 : C}, m ≠ i → l[m]? = some (.own c1) → σ[m]? ≠ some (some (.ref p)) := fun {m c1} _ e q => by
    obtain ⟨b, o1, h4, h5, _⟩ := h.sl m _ e
    rw [q] at h4
    cases h4
    rw [fO] at h5
    cases h5
  refine ⟨by rw [List.length_set, List.length_set]; exact h.len, fun j s' e => ?_, fun j k c1 c2 b h1 h2 h3 h4 => ?_, h.base.1.trans (Le.own W _), fun b u e => ?_⟩
  · by_cases hj : j = i
    · subst hj
      have hlt := lt e
      rw [List.getElem?_set_self hlt] at e
      cases e
      exact ⟨p, o, by rw [List.getElem?_set_self (by rw [← h.len]; exact hlt)], upd_same, ⟨fB, fun z => by rw [hc] at z; cases z⟩, r.mono (Le.own W _)⟩
    · rw [List.getElem?_set_ne (Ne.symm hj)] at e ⊢
      exact old e
  · by_cases hj : j = i
    · by_cases hk : k = i
      · rw [hj, hk]
      · subst hj
        rw [List.getElem?_set_self (by rw [← h.len]; exact lt h1)] at h3
        cases h3
        rw [List.getElem?_set_ne (Ne.symm hk)] at h2 h4
        exact absurd h4 (notp hk h2)
    · rw [List.getElem?_set_ne (Ne.symm hj)] at h1 h3
      by_cases hk : k = i
      · subst hk
        rw [List.getElem?_set_self (by rw [← h.len]; exact lt h2)] at h4
        cases h4
        exact absurd h3 (notp hj h1)
      · rw [List.getElem?_set_ne (Ne.symm hk)] at h2 h4
        exact h.dj j k c1 c2 b h1 h2 h3 h4
  · have ne : b ≠ p := fun z => by rw [z, fB] at e; cases e
    show upd W.O p o b = some u
    rw [upd_ne ne]
    exact h.base.2 b u e
end
end F

/-! the tables of classes; attributes; isinstance; owned lists, sets, instances; repr -/
namespace F
open PySem PySem.Spec PyProof.Rows L2 Evl
structure Tb where
  cis : List (Str × List Str) := []
  isi : List (Tag × Tag × Bool) := []
  con : List (Str × Str × D) := []
def Tb.fld (T : Tb) (c f : Str) : Bool := T.cis.any fun q => decide (q.1 = c) && q.2.any fun g => decide (g = f)
def Tb.cst (T : Tb) (c f : Str) : Option D := (T.con.find? fun q => decide (q.1 = c) && decide (q.2.1 = f)).map (·.2.2)
def Tb.is (T : Tb) (t u : Tag) : Option Bool := (T.isi.find? fun q => decide (q.1 = t) && decide (q.2.1 = u)).map (·.2.2)
def tagV (Z : Sx) : Tag → Option Value
  | .b n => some (.type n)
  | .c x => Z.mg x
structure TbOk (Z : Sx) (T : Tb) : Prop where
  cls : ∀ q ∈ T.cis, ∃ Cl, Z.mg q.1 = some (.ref Cl) ∧ E.ClsF Z.K Cl ∧ ∀ f ∈ q.2, NoAttr Z.K Cl f
  isi : ∀ q ∈ T.isi, ∃ t u, tagV Z q.1 = some t ∧ tagV Z q.2.1 = some u ∧ PySem.W.kitOne Z.K t u = some q.2.2
  con : ∀ q ∈ T.con, ∃ Cl v u, Z.mg q.1 = some (.ref Cl) ∧ Con Z.K Cl q.2.1 v u ∧ ∀ W, Rep Z W v q.2.2
section
variable {Z : Sx} {T : Tb} {c f : Str} {Cl : Addr}
theorem TbOk.fld_ok (t : TbOk Z T) (h : T.fld c f = true) (hm : Z.mg c = some (.ref Cl)) : E.ClsF Z.K Cl ∧ NoAttr Z.K Cl f := by
  unfold Tb.fld at h
  obtain ⟨q, hq, h1⟩ := List.any_eq_true.mp h
  obtain ⟨h2, h3⟩ := Bool.and_eq_true_iff.mp h1
  obtain ⟨g, hg, h4⟩ := List.any_eq_true.mp h3
  obtain ⟨Cl', m, k, n⟩ := t.cls q hq
  rw [of_decide_eq_true h2, hm] at m
  cases m
  rw [← of_decide_eq_true h4]
  exact ⟨k, n g hg⟩
theorem TbOk.cst_ok (t : TbOk Z T) {d : D} (h : T.cst c f = some d) (hm : Z.mg c = some (.ref Cl)) : ∃ v u, Con Z.K Cl f v u ∧ ∀ W, Rep Z W v d := by
  unfold Tb.cst at h
  cases q : T.con.find? fun q => decide (q.1 = c) && decide (q.2.1 = f) with
  | none => rw [q] at h; cases h
  | some r =>
    rw [q] at h
    cases h
    have hr := List.find?_some q
    obtain ⟨h2, h3⟩ := Bool.and_eq_true_iff.mp hr
    obtain ⟨Cl', v, u, m, k, n⟩ := t.con r (List.mem_of_find?_eq_some q)
    rw [of_decide_eq_true h2, hm] at m
    cases m
    rw [of_decide_eq_true h3] at k
    exact ⟨v, u, k, n⟩
theorem TbOk.is_ok (t : TbOk Z T) {x y : Tag} {b : Bool} (h : T.is x y = some b) : ∃ t u, tagV Z x = some t ∧ tagV Z y = some u ∧ PySem.W.kitOne Z.K t u = some b := by
  unfold Tb.is at h
  cases q : T.isi.find? fun q => decide (q.1 = x) && decide (q.2.1 = y) with
  | none => rw [q] at h; cases h
  | some r =>
    rw [q] at h
    cases h
    have hr := List.find?_some q
    obtain ⟨h2, h3⟩ := Bool.and_eq_true_iff.mp hr
    obtain ⟨t, u, h4, h5, h6⟩ := t.isi r (List.mem_of_find?_eq_some q)
    rw [of_decide_eq_true h2] at h4
    rw [of_decide_eq_true h3] at h5
    exact ⟨t, u, h4, h5, h6⟩
end
/-! ### attributes -/
def insOf (cs : Cells) : D → Option (Str × List (Str × D))
  | .ins c fs => some (c, fs)
  | .cel n => match cs[n]? with
    | some (.ins c fs) => some (c, fs)
    | _ => none
  | _ => none
theorem insOf_ok {Z : Sx} {W : Wd} {cs : Cells} {H : Hp} {v : V} {d : D} {c : Str} {fs : List (Str × D)} (s : S Z W cs H) (r : Rep Z W v d) (h : insOf cs d = some (c, fs)) : ∃ a Cl dx us, v = .ref a ∧ Z.mg c = some (.ref Cl) ∧ H a = some (.ins Cl dx us) ∧ RepF Z W us fs := by
  cases r with
  | ins m e rf => cases h; exact ⟨_, _, _, _, rfl, m, s.g _ _ e, rf⟩
  | @cel n a hi =>
    have h' : (match cs[n]? with | some (.ins c fs) => some (c, fs) | _ => none) = some (c, fs) := h
    split at h'
    · rename_i c' fs' hc
      cases h'
      obtain ⟨_, u, hu, Cl, dx, us, m, e, rf⟩ := s.at_ n a _ hi hc (fun z => nomatch z)
      subst e
      exact ⟨a, Cl, dx, us, rfl, m, hu, rf⟩
    · cases h'
  | _ => cases h
def fldI (T : Tb) (c f : Str) (fs : List (Str × D)) : Option D := if T.fld c f = true then fs.lookup f else match T.cst c f with
  | some d => if (fs.lookup f).isNone = true then some d else none
  | none => none
def dFld (T : Tb) (f : Str) (cs : Cells) (d : D) : Option D := match insOf cs d with
  | some (c, fs) => fldI T c f fs
  | none => none
/-- e.f: an attribute of the instance, or a constant of its class -/
def tAt (K : PySem.W.Frag) (ta : TE) (f : Str) : TE := fun σ H Q => ta σ H fun x H1 => ∃ a Cl dx fs v, x = .ref a ∧ H1 a = some (.ins Cl dx fs) ∧ Cls K Cl ∧ ((NoAttr K Cl f ∧ fs.lookup f = some v) ∨ ((∃ u, Con K Cl f v u) ∧ fs.lookup f = none)) ∧ Q v H1
theorem pe_at {X : Cx} {e : Expr} {f : Str} {ta : TE} {pos : Pos} (he : PE X e ta) (hb : attributeBase e f X.env (eval e X.env) = eval e X.env) : PE X (.Attribute e f pos) (tAt X.K ta f) := by
  refine ⟨fun pins s σ H Q I h => ?_⟩
  refine attr_of hb (thn (he.run pins s σ H _ I h) fun u s1 hh => ?_)
  obtain ⟨x, H1, I1, rx, a, Cl, dx, fs, v, ex, ea, c, k, q⟩ := hh
  subst ex
  obtain rfl : u = Value.ref a := rx
  rcases k with ⟨n, l⟩ | ⟨⟨u0, k⟩, l⟩
  · exact getattr_ok I1 ea c n l fun u' s2 I2 ru => ⟨v, H1, I2, ru, q⟩
  · exact getcon_ok I1 ea c k l fun s2 I2 => ⟨v, H1, I2, k.rel, q⟩
theorem fldI_ok {Z : Sx} {T : Tb} {W : Wd} {c f : Str} {Cl : Addr} {us : List (Str × V)} {fs : List (Str × D)} {d : D} (t : TbOk Z T) (hcl : ∀ g, T.fld c g = true → True) (h : fldI T c f fs = some d) (m : Z.mg c = some (.ref Cl)) (rf : RepF Z W us fs) (hc : Cls Z.K Cl) :
    ∃ v, ((NoAttr Z.K Cl f ∧ us.lookup f = some v) ∨ ((∃ u, Con Z.K Cl f v u) ∧ us.lookup f = none)) ∧ Rep Z W v d := by
  unfold fldI at h
  by_cases q : T.fld c f = true
  · rw [if_pos q] at h
    obtain ⟨v, hv, rv⟩ := rf.lookup f h
    exact ⟨v, .inl ⟨(t.fld_ok q m).2, hv⟩, rv⟩
  · rw [if_neg q] at h
    split at h
    · rename_i d' hd
      split at h
      · rename_i hn
        cases h
        obtain ⟨v, u, k, r⟩ := t.cst_ok hd m
        exact ⟨v, .inr ⟨⟨u, k⟩, rf.lookup_none f (Option.isNone_iff_eq_none.mp hn)⟩, r W⟩
      · cases h
    · cases h
/-- the class is known -/
def Tb.has (T : Tb) (c : Str) : Bool := T.cis.any fun q => decide (q.1 = c)
theorem TbOk.has_ok {Z : Sx} {T : Tb} {c : Str} {Cl : Addr} (t : TbOk Z T) (h : T.has c = true) (hm : Z.mg c = some (.ref Cl)) : E.ClsF Z.K Cl := by
  obtain ⟨q, hq, h1⟩ := List.any_eq_true.mp h
  obtain ⟨Cl', m, k, n⟩ := t.cls q hq
  rw [of_decide_eq_true h1, hm] at m
  cases m
  exact k
def attI (T : Tb) (c f : Str) (fs : List (Str × D)) : Option D := if T.has c = true then fldI T c f fs else none
theorem attI_ok {Z : Sx} {T : Tb} {W : Wd} {c f : Str} {Cl : Addr} {us : List (Str × V)} {fs : List (Str × D)} {d : D} (t : TbOk Z T) (h : attI T c f fs = some d) (m : Z.mg c = some (.ref Cl)) (rf : RepF Z W us fs) :
    Cls Z.K Cl ∧ ∃ v, ((NoAttr Z.K Cl f ∧ us.lookup f = some v) ∨ ((∃ u, Con Z.K Cl f v u) ∧ us.lookup f = none)) ∧ Rep Z W v d := by
  unfold attI at h
  by_cases q : T.has c = true
  · rw [if_pos q] at h
    exact ⟨(t.has_ok q m).cls, fldI_ok t (fun _ _ => True.intro) h m rf (t.has_ok q m).cls⟩
  · rw [if_neg q] at h
    cases h
def dAt (T : Tb) (f : Str) (cs : Cells) (d : D) : Option D := match insOf cs d with
  | some (c, fs) => attI T c f fs
  | none => none
/-- the same of a name that may own its instance -/
def xAtV (T : Tb) (i : Nat) (f : Str) : XE := fun l => match l[i]? with
  | some (.own (.ins c fs)) => rd fun _ => attI T c f fs
  | some (.val d) => rd fun cs => dAt T f cs d
  | some (.me d) => rd fun cs => dAt T f cs d
  | _ => no
section
variable {X : Cx} {z : ZT} {e : Expr} {fe : XE} {f : Str} {pos : Pos} {T : Tb}
theorem je_at (t : TbOk (sx X) T) (h : JE X z e fe) (hb : attributeBase e f X.env (eval e X.env) = eval e X.env := by rfl) : JE X z (.Attribute e f pos) (x1 (dAt T f) fe) := ⟨fun B Er tk => pe_imp (pe_at (h.run B Er tk) hb) fun σ H Q ⟨W, cs, l, s, lr, w⟩ => by
  refine ⟨W, cs, l, s, lr, wp_imp (wp_bd.mp w) (fun d cs1 w1 W1 v1 H1 le1 o1 s1 r1 => ?_) fun _ _ h => h⟩
  obtain ⟨r, hr, k⟩ := wp_rd.mp w1
  unfold dAt at hr
  split at hr
  · rename_i c fs q
    obtain ⟨a, Cl, dx, us, rfl, m, ha, rf⟩ := insOf_ok s1 r1 q
    obtain ⟨hc, v, hv, rv⟩ := attI_ok t hr m rf
    exact ⟨a, Cl, dx, us, v, rfl, ha, hc, hv, k W1 v H1 le1 o1 s1 rv⟩
  · cases hr⟩
theorem je_atV {i : Nat} (t : TbOk (sx X) T) (h : PE X e (tVar i)) (hb : attributeBase e f X.env (eval e X.env) = eval e X.env := by rfl) : JE X z (.Attribute e f pos) (xAtV T i f) := ⟨fun B Er tk => pe_imp (pe_at h hb) fun σ H Q ⟨W, cs, l, s, lr, w⟩ => by
  unfold xAtV at w
  split at w
  · rename_i c fs hl
    obtain ⟨r, hr, k⟩ := wp_rd.mp w
    obtain ⟨a, o, ha, hO, _, Cl, dx, us, m, e, rf⟩ := lr.sl i _ hl
    subst e
    obtain ⟨hc, v, hv, rv⟩ := attI_ok t hr m rf
    exact ⟨_, ha, a, Cl, dx, us, v, rfl, s.o _ _ hO, hc, hv, k W v H (Le.refl _) rfl s rv⟩
  · rename_i d hl
    obtain ⟨r, hr, k⟩ := wp_rd.mp w
    obtain ⟨u, hu, ru⟩ := lr.sl i _ hl
    unfold dAt at hr
    split at hr
    · rename_i c fs q
      obtain ⟨a, Cl, dx, us, rfl, m, ha, rf⟩ := insOf_ok s ru q
      obtain ⟨hc, v, hv, rv⟩ := attI_ok t hr m rf
      exact ⟨_, hu, a, Cl, dx, us, v, rfl, ha, hc, hv, k W v H (Le.refl _) rfl s rv⟩
    · cases hr
  · rename_i d hl
    obtain ⟨r, hr, k⟩ := wp_rd.mp w
    obtain ⟨u, hu, _, ru⟩ := lr.sl i _ hl
    unfold dAt at hr
    split at hr
    · rename_i c fs q
      obtain ⟨a, Cl, dx, us, ea, m, ha, rf⟩ := insOf_ok s ru q
      cases ea
      obtain ⟨hc, v, hv, rv⟩ := attI_ok t hr m rf
      exact ⟨_, hu, _, Cl, dx, us, v, rfl, ha, hc, hv, k W v H (Le.refl _) rfl s rv⟩
    · cases hr
  · exact w.elim⟩
end
/-- self.f = e, self an instance that the slot owns -/
def sFldO (T : Tb) (i : Nat) (f : Str) (fe : XE) : XS := fun l cs => onE (fe l) l cs fun d cs' => match l[i]? with
  | some (.own (.ins c fs)) => if (T.fld c f && decide (fs.length < 900)) = true then .go (.nx (l.set i (.own (.ins c (putD f d fs))))) cs' else .no
  | _ => .no
theorem js_fldO {X : Cx} {z : ZT} {T : Tb} {i : Nat} {f : Str} {o e : Expr} {fe : XE} {pos pos' : Pos} (t : TbOk (sx X) T) (ho : PE X o (tVar i)) (he : JE X z e fe) (hs : swapsWith e (some (.Attribute o f pos')) pos.line X.env = pure false := by rfl) :
    JS X z (.Assign [.Attribute o f pos'] e pos) (sFldO T i f fe) := ⟨fun B Er tk => ps_imp (ps_fld ho (he.run B Er tk) hs) fun D σ H ⟨W, cs, l, s, lr, w⟩ => by
  refine ⟨W, cs, l, s, lr, wp_imp (wpS_onE.mp w) (fun d cs1 w1 W1 v1 H1 le1 o1 s1 r1 => ?_) fun _ _ h => h⟩
  split at w1
  · rename_i c fs hl
    split at w1
    · rename_i hc
      obtain ⟨c1, c2⟩ := Bool.and_eq_true_iff.mp hc
      have lr1 := lr.mono le1 o1
      obtain ⟨a, o, ha, hO, _, Cl, dx, us, m, e, rf⟩ := lr1.sl i _ hl
      subst e
      obtain ⟨k1, k2⟩ := t.fld_ok c1 m
      refine ⟨_, ha, a, Cl, dx, us, rfl, s1.o _ _ hO, k1.cls, k2, by rw [rf.length]; exact Nat.lt_of_lt_of_le (of_decide_eq_true c2) (by decide), ?_⟩
      refine w1 { W1 with O := upd W1.O a (.ins Cl dx (putF f v1 us)) } σ _ (le1.trans (Le.own W1 _)) (s1.ownPut hO) (lr1.ownSet hl ha ⟨Cl, dx, _, m, rfl, RepF.put r1 rf⟩)
    · exact w1.elim
  · exact w1.elim⟩
/-! ### what a slot owns stands for good from now on -/
def sFrz (i : Nat) : XS := fun l cs => match l[i]? with
  | some (.own (.lst xs)) => .go (.nx (l.set i (.val (.lst xs)))) cs
  | some (.own (.ins c fs)) => .go (.nx (l.set i (.me (.ins c fs)))) cs
  | some (.val _) => .go (.nx l) cs
  | _ => .no
theorem LR.frz {Z : Sx} {z : ZT} {B : Wd} {W : Wd} {l : Loc} {σ : L2.St} {H : Hp} {cs : Cells} {i : Nat} {a : Addr} {o : HO} {c : C} {d : Sl} (h : LR Z z B W l σ) (s : S Z W cs H) (hi : l[i]? = some (.own c)) (ha : σ[i]? = some (some (.ref a))) (hO : W.O a = some o)
    (nd : ∀ k, d ≠ .own k) (r : ∀ W', Le W W' → W'.G a = some o → SlOk Z z B W' d (some (some (.ref a)))) : ∃ W', Le W W' ∧ S Z W' cs H ∧ LR Z z B W' (l.set i d) σ := by
  have hB : B.O a = none := by
    obtain ⟨a', o', e, _, h3, _⟩ := h.sl i _ hi
    rw [ha] at e
    cases e
    exact h3.1
  have ex : Ex (fun b => if b = a then none else W.O b) W.O := fun b u e => by
    by_cases hb : b = a
    · exact absurd (show none = some u by rw [← e]; exact (if_pos hb).symm) (fun z => nomatch z)
    · rw [← e]; exact (if_neg hb).symm
  refine ⟨{ W with G := upd W.G a o, O := fun b => if b = a then none else W.O b }, Le.frz W (s.dj a o hO), s.ownFrz hO ex (if_pos rfl), ?_⟩
  have le : Le W { W with G := upd W.G a o, O := fun b => if b = a then none else W.O b } := Le.frz W (s.dj a o hO)
  refine ⟨by rw [List.length_set]; exact h.len, fun j s' e => ?_, fun j k c1 c2 b h1 h2 h3 h4 => ?_, h.base.1.trans le, fun b u e => ?_⟩
  · by_cases hj : j = i
    · subst hj
      rw [List.getElem?_set_self (List.getElem?_eq_some_iff.mp hi).1] at e
      cases e
      rw [ha]
      exact r _ le upd_same
    · rw [List.getElem?_set_ne (Ne.symm hj)] at e
      have q := h.sl j s' e
      cases s' with
      | emp => exact True.intro
      | val d => obtain ⟨u, h1, h2⟩ := q; exact ⟨u, h1, h2.mono le⟩
      | own c1 =>
        obtain ⟨b, o1, h4, h5, h6, h7⟩ := q
        have ne : b ≠ a := fun z => by
          subst z
          exact hj (h.dj j i c1 c b e hi h4 ha)
        exact ⟨b, o1, h4, by show (if b = a then none else W.O b) = some o1; rw [if_neg ne]; exact h5, h6, h7.mono le⟩
      | me d => obtain ⟨b, h1, h2, h3⟩ := q; exact ⟨b, h1, h2, h3.mono le⟩
      | exn x => obtain ⟨b, c1, d, h1, h2, h3⟩ := q; exact ⟨b, c1, d, h1, h2, h3.mono le⟩
  · have get : ∀ {m : Nat} {cc : C}, (l.set i d)[m]? = some (.own cc) → l[m]? = some (.own cc) := fun {m cc} e => by
      by_cases hm : m = i
      · subst hm
        rw [List.getElem?_set_self (List.getElem?_eq_some_iff.mp hi).1] at e
        exact absurd (Option.some.inj e) (nd cc)
      · rw [List.getElem?_set_ne (Ne.symm hm)] at e; exact e
    exact h.dj j k c1 c2 b (get h1) (get h2) h3 h4
  · have ne : b ≠ a := fun z => by rw [z, hB] at e; cases e
    show (if b = a then none else W.O b) = some u
    rw [if_neg ne]
    exact h.base.2 b u e
theorem jss_frz {X : Cx} {z : ZT} {i : Nat} {sts : List Stmt} {g : XS} (h : JSs X z sts g) : JSs X z sts (sSeq (sFrz i) g) := ⟨fun B Er tk => pss_imp (h.run B Er tk) fun D σ H ⟨W, cs, l, s, lr, w⟩ => by
  have w1 := wpS_seq.mp w
  unfold sFrz at w1
  split at w1
  · rename_i xs hl
    obtain ⟨a, o, ha, hO, _, us, e, ra⟩ := lr.sl i _ hl
    subst e
    obtain ⟨W', le, s', lr'⟩ := lr.frz s hl ha hO (d := .val (.lst xs)) (fun _ z => nomatch z) fun W' le hg => ⟨_, rfl, .lst hg (ra.mono le)⟩
    exact ⟨W', cs, _, s', lr', wpS_imp w1 fun fl cs2 p => post_le le p⟩
  · rename_i c fs hl
    obtain ⟨a, o, ha, hO, hme, Cl, dx, us, m, e, rf⟩ := lr.sl i _ hl
    subst e
    obtain ⟨W', le, s', lr'⟩ := lr.frz s hl ha hO (d := .me (.ins c fs)) (fun _ z => nomatch z) fun W' le hg => ⟨a, rfl, hme.2 rfl, .ins m hg (rf.mono le)⟩
    exact ⟨W', cs, _, s', lr', wpS_imp w1 fun fl cs2 p => post_le le p⟩
  · exact ⟨W, cs, l, s, lr, w1⟩
  · exact w1.elim⟩
/-- slot i gets an owned thing that W' has -/
theorem LR.ownGot {Z : Sx} {z : ZT} {B : Wd} {W W' : Wd} {l : Loc} {σ : L2.St} {i : Nat} {a : Addr} {o : HO} {c : C} (h : LR Z z B W l σ) (le : Le W W') (ho : W'.O = upd W.O a o) (hO : W.O a = none) (hB : B.O a = none) (r : RepC Z W' a o c) (hc : isIns c = false := by rfl) : LR Z z B W' (l.set i (.own c)) (σ.set i (some (.ref a))) := by
  have old : ∀ {j : Nat} {s' : Sl}, l[j]? = some s' → SlOk Z z B W' s' (σ[j]?) := fun {j s'} e => by
    have q := h.sl j s' e
    cases s' with
    | emp => exact True.intro
    | val d => obtain ⟨u, h1, h2⟩ := q; exact ⟨u, h1, h2.mono le⟩
    | own c1 =>
      obtain ⟨b, o1, h4, h5, h6, h7⟩ := q
      have ne : b ≠ a := fun z => by rw [z, hO] at h5; cases h5
      exact ⟨b, o1, h4, by rw [ho, upd_ne ne]; exact h5, h6, h7.mono le⟩
    | me d => obtain ⟨b, h1, h2, h3⟩ := q; exact ⟨b, h1, h2, h3.mono le⟩
    | exn x => obtain ⟨b, c1, d, h1, h2, h3⟩ := q; exact ⟨b, c1, d, h1, h2, h3.mono le⟩
  have lt : ∀ {m : Nat} {s' : Sl}, (l.set i (.own c))[m]? = some s' → m < l.length := fun {m s'} e => by
    have := (List.getElem?_eq_some_iff.mp e).1
    rw [List.length_set] at this
    exact this
  have nota : ∀ {m : Nat} {c1 : C}, l[m]? = some (.own c1) → σ[m]? ≠ some (some (.ref a)) := fun {m c1} e q => by
    obtain ⟨b, o1, h4, h5, _⟩ := h.sl m _ e
    rw [q] at h4
    cases h4
    rw [hO] at h5
    cases h5
  refine ⟨by rw [List.length_set, List.length_set]; exact h.len, fun j s' e => ?_, fun j k c1 c2 b h1 h2 h3 h4 => ?_, h.base.1.trans le, fun b u e => ?_⟩
  · by_cases hj : j = i
    · subst hj
      have hlt := lt e
      rw [List.getElem?_set_self hlt] at e
      cases e
      exact ⟨a, o, by rw [List.getElem?_set_self (by rw [← h.len]; exact hlt)], by rw [ho]; exact upd_same, ⟨hB, fun z => by rw [hc] at z; cases z⟩, r⟩
    · rw [List.getElem?_set_ne (Ne.symm hj)] at e ⊢
      exact old e
  · by_cases hj : j = i
    · by_cases hk : k = i
      · rw [hj, hk]
      · subst hj
        rw [List.getElem?_set_self (by rw [← h.len]; exact lt h1)] at h3
        cases h3
        rw [List.getElem?_set_ne (Ne.symm hk)] at h2 h4
        exact absurd h4 (nota h2)
    · rw [List.getElem?_set_ne (Ne.symm hj)] at h1 h3
      by_cases hk : k = i
      · subst hk
        rw [List.getElem?_set_self (by rw [← h.len]; exact lt h2)] at h4
        cases h4
        exact absurd h3 (nota h1)
      · rw [List.getElem?_set_ne (Ne.symm hk)] at h2 h4
        exact h.dj j k c1 c2 b h1 h2 h3 h4
  · have ne : b ≠ a := fun z => by rw [z, hB] at e; cases e
    rw [ho, upd_ne ne]
    exact h.base.2 b u e
/-! ### owned lists -/
def sOwnL (i : Nat) (f : XA) : XS := fun l cs => onE (f l) l cs fun ds cs' => .go (.nx (l.set i (.own (.lst ds)))) cs'
def sOwnC (i : Nat) (f : XA) (g : XG) (t : XB) (e : XE) (vs : List Nat) : XS := fun l cs => onE (lcM f g t e vs l) l cs fun ds cs' => .go (.nx (l.set i (.own (.lst ds)))) cs'
def sOwnA (i : Nat) (f : XE) : XS := fun l cs => onE (f l) l cs fun d cs1 => onE (rd fun cs => seqOf cs d) l cs1 fun ds cs' => .go (.nx (l.set i (.own (.lst ds)))) cs'
def sMutO (i : Nat) (g : List D → List D → Option (List D)) (f : XA) : XS := fun l cs => match l[i]? with
  | some (.own (.lst xs)) => onE (f l) l cs fun ds cs' => match g xs ds with
    | some ys => .go (.nx (l.set i (.own (.lst ys)))) cs'
    | none => .no
  | _ => .no
def xLenO (i : Nat) : XE := fun l => match l[i]? with
  | some (.own (.lst xs)) => rt (.int xs.length)
  | some (.val d) => rd fun cs => dLen cs [d]
  | _ => no
section
variable {X : Cx} {z : ZT} {st : Stmt} {es : List Expr} {f : XA} {i : Nat} {pos p : Pos}
theorem js_ownL (hp : ∀ {t : TA}, PA X es t → PS X st (tAsg (tLst t) (gName i))) (h : JL X z es f) (hl : es.length ≤ sizeLine := by decide +kernel) : JS X z st (sOwnL i f) := ⟨fun B Er tk => ps_imp (hp (h.ja.run B Er tk)) fun D σ H ⟨W, cs, l, s, lr, w⟩ => by
  refine ⟨W, cs, l, s, lr, wp_imp (wp_len (wpS_onE.mp w) (h.len l cs)) (fun ds cs1 ⟨ln, w1⟩ W1 vs H1 le1 o1 s1 r1 => ?_) fun _ _ h => h⟩
  exact ⟨by rw [r1.length, ln]; exact hl, fun q hq => w1 _ _ _ (le1.trans (Le.own W1 _)) (s1.ownNew hq) ((lr.mono le1 o1).ownNew s1 hq ⟨vs, rfl, r1⟩)⟩⟩
theorem js_mutO {r : V → List V → Hp → VK → Prop} {g : List D → List D → Option (List D)} (hp : ∀ {t : TA}, PA X es t → PS X st (tDrop (tBM X.K "list" r (tVar i) t))) (hr : MutR (sx X) r g) (h : JA X z es f) : JS X z st (sMutO i g f) := ⟨fun B Er tk => ps_imp (hp (h.run B Er tk)) fun D σ H ⟨W, cs, l, s, lr, w⟩ => by
  unfold sMutO at w
  split at w
  · rename_i xs hl
    obtain ⟨a, o, ha, hO, _, us, e, ra⟩ := lr.sl i _ hl
    subst e
    refine ⟨_, ha, Or.inl ⟨rfl, us, sq_of (s.o _ _ hO)⟩, W, cs, l, s, lr, wp_imp (wpS_onE.mp w) (fun ds cs1 w1 W1 vs H1 le1 o1 s1 r1 => ?_) fun _ _ h => h⟩
    split at w1
    · rename_i ys qy
      have hO1 : W1.O a = some (.lst us) := by rw [o1]; exact hO
      refine hr W1 a us vs xs ds ys H1 _ (s1.o _ _ hO1) (ra.mono le1) r1 qy fun ws rw' => ?_
      exact w1 _ _ _ (le1.trans (Le.own W1 _)) (s1.ownPut hO1) ((lr.mono le1 o1).ownSet hl ha ⟨ws, rfl, rw'⟩)
    · exact w1.elim
  · exact w.elim⟩
theorem je_lenO {a : Expr} (hg : Gl X "len") (hm : X.mg "len" = none) (h : PE X a (tVar i)) (hs : starEach [a] X.env = [(false, eval a X.env)] := by rfl) : JE X z (.Call (.Name "len" p) [a] [] pos) (xLenO i) :=
  ⟨fun B Er tk => pe_imp (pe_callB call_len hg hm (by decide +kernel) (pa_cons h pa_nil hs) (by decide) (by decide) hs rfl) fun σ H Q ⟨W, cs, l, s, lr, w⟩ => by
  unfold xLenO at w
  split at w
  · rename_i xs hl
    obtain ⟨a, o, ha, hO, _, us, e, ra⟩ := lr.sl i _ hl
    subst e
    refine ⟨_, ha, _, us.length, rfl, .inl ⟨us, sq_of (s.o _ _ hO), rfl⟩, ?_⟩
    rw [ra.length]
    exact w W _ H (Le.refl _) rfl s (.int _)
  · rename_i d hl
    obtain ⟨r, hr, k⟩ := wp_rd.mp w
    obtain ⟨u, hu, ru⟩ := lr.sl i _ hl
    refine ⟨u, hu, ?_⟩
    unfold dLen at hr
    split at hr
    · rename_i x e
      cases e
      cases hr
      obtain ⟨rfl, hlen⟩ := rep_str ru
      exact ⟨_, _, rfl, ⟨hlen, rfl⟩, k W _ H (Le.refl _) rfl s (.int _)⟩
    · rename_i d' _ e
      cases e
      cases q : seqOf cs d with
      | none => rw [q] at hr; cases hr
      | some ys =>
        rw [q] at hr
        cases hr
        obtain ⟨a, us, rfl, hs, ra⟩ := seq_ok s ru q
        refine ⟨_, us.length, rfl, ?_, k W _ H (Le.refl _) rfl s (by rw [ra.length]; exact .int _)⟩
        rcases hs with hs | hs
        · exact .inl ⟨us, hs, rfl⟩
        · exact .inr ⟨us, hs, rfl⟩
    · cases hr
  · exact w.elim⟩
end
section
variable {X : Cx} {z : ZT} {elt tg iter : Expr} {ifs : List Expr} {scope : Scope} {own : List (Str × Nat)} {pos : Pos} {f : XA} {g : XG} {t : XB} {e : XE} {ts : List Nat}
/-- name = [.. for ..], the list owned -/
theorem js_ownLc {i : Nat} {y : Str} {py spos : Pos} (hc : X.calm = true) (hN : X.N.Nodup) (hy : X.N[i]? = some y) (hyl : X.env.scope.names.lookup y = some .local)
    (hsw : swapsWith (.ListComp elt [⟨tg, iter, ifs, 0⟩] scope pos) (some (.Name y py)) spos.line X.env = pure true) (hi : JI X z tg iter f) (ok : BlkOk X.N X.env.scope scope own) (hg : ∀ (s : Shared) (H : Hp) (C : Addr) (cl : List (Str × Addr)) (fp : List Addr), JG (X.blk s H scope (compEnvC scope cl C X.env) fp) z tg ts g)
    (ht : ∀ (s : Shared) (H : Hp) (C : Addr) (cl : List (Str × Addr)) (fp : List Addr), JTs (X.blk s H scope (compEnvC scope cl C X.env) fp) z ifs t) (he : ∀ (s : Shared) (H : Hp) (C : Addr) (cl : List (Str × Addr)) (fp : List Addr), JE (X.blk s H scope (compEnvC scope cl C X.env) fp) z elt e)
    (hv : ∀ t ∈ ts, t ∈ own.map (·.2) := by decide) (hs : ∀ x, foldedSetIterable iter X.env x = pure x := by intro _; rfl) : JS X z (.Assign [.Name y py] (.ListComp elt [⟨tg, iter, ifs, 0⟩] scope pos) spos) (sOwnC i f g t e (own.map (·.2))) :=
  ⟨fun B Er tk => ps_imp (ps_setLc hc hN hy hyl hsw (hi.run B Er tk) ok (fun s H C cl fp => (hg s H C cl fp).run B) (fun s H C cl fp => (ht s H C cl fp).run B _ takes_no) (fun s H C cl fp => (he s H C cl fp).run B _ takes_no) hs) fun D σ H ⟨W, cs, l, s, lr, w⟩ =>
    lc_gen (X := X) hv ⟨W, cs, l, s, lr, wp_imp (wpS_onE.mp w) (fun ys cs1 w1 W1 Dd acc H1 le1 hO hB o1 s1 ra => w1 W1 _ H1 le1 s1 (lr.ownGot (a := Dd) le1 o1 hO hB ⟨acc, rfl, ra⟩)) fun _ _ h => h⟩⟩
end
/-! ### sets of keys -/
def addK (ks : List Key) (k : Key) : List Key := if hasK ks k = true then ks else ks ++ [k]
def sOwn (i : Nat) (c : C) : XS := fun l cs => .go (.nx (l.set i (.own c))) cs
def sAddO (i : Nat) (fe : XE) : XS := fun l cs => match l[i]? with
  | some (.own (.set ks)) => onE (fe l) l cs fun d cs' => match keyOf d with
    | some k => if ks.length < 4000 then .go (.nx (l.set i (.own (.set (addK ks k))))) cs' else .no
    | none => .no
  | _ => .no
def bInO (neg : Bool) (i : Nat) (fe : XE) : XB := fun l => bd (fe l) fun d => match l[i]?, keyOf d with
  | some (.own (.set ks)), some k => rt (hasK ks k != neg)
  | _, _ => no
theorem addK_has (ks : List Key) (k : Key) : hasK (addK ks k) = fun j => hasK ks j || decide (j = k) := by
  funext j
  unfold addK
  by_cases h : hasK ks k = true
  · rw [if_pos h]
    by_cases e : j = k
    · subst e
      rw [h]
      simp
    · rw [decide_eq_false e, Bool.or_false]
  · rw [if_neg h]
    show (ks ++ [k]).any _ = (ks.any _ || _)
    rw [List.any_append]
    congr 1
    simp [eq_comm]
theorem addK_len (ks : List Key) (k : Key) : (addK ks k).length = if hasK ks k = true then ks.length else ks.length + 1 := by
  unfold addK
  split
  · rfl
  · rw [List.length_append]; rfl
theorem key_ok {Z : Sx} {W : Wd} {v : V} {d : D} {k : Key} (r : Rep Z W v d) (h : keyOf d = some k) : v = kV k := by
  cases r <;> first | (cases h; rfl) | cases h
section
variable {X : Cx} {z : ZT} {st : Stmt} {e a : Expr} {es : List Expr} {fe : XE} {i : Nat}
theorem js_set0 (hp : PS X st (tAsg (tCB (rSet0K X.prog X.w) tNil) (gName i))) : JS X z st (sOwn i (.set [])) := ⟨fun B Er tk => ps_imp hp fun D σ H ⟨W, cs, l, s, lr, w⟩ => by
  refine ⟨rfl, fun p hp => ?_⟩
  have e0 : hasK [] = fun _ => false := rfl
  exact w _ _ _ (Le.own W _) (s.ownNew hp) (lr.ownNew s hp (c := .set []) (show _ = SetK _ _ _ (hasK []) 0 by rw [e0]))⟩
theorem js_addO (hp : ∀ {t : TA}, PA X [e] t → PS X st (tDrop (tSAddK X.prog X.w (tVar i) t))) (he : JE X z e fe) (hs : starEach [e] X.env = [(false, eval e X.env)] := by rfl) : JS X z st (sAddO i fe) := ⟨fun B Er tk => ps_imp (hp ((ja_cons he ja_nil hs).run B Er tk)) fun D σ H ⟨W, cs, l, s, lr, w⟩ => by
  unfold sAddO at w
  split at w
  · rename_i ks hl
    obtain ⟨a, o, ha, hO, _, ho⟩ := lr.sl i _ hl
    have ho' : o = SetK X.prog X.w a (hasK ks) ks.length := ho
    subst ho'
    refine ⟨_, ha, ⟨a, _, _, rfl, s.o _ _ hO⟩, W, cs, l, s, lr, wp_bd.mpr (wp_imp (wpS_onE.mp w) (fun d cs1 w1 => ?_) fun _ _ h => h)⟩
    intro W1 vs H1 le1 o1 s1 r1
    cases r1 with
    | cons r1 r2 =>
      cases r2
      split at w1
      · rename_i k hk
        split at w1
        · rename_i hlt
          have hO1 : W1.O a = some (SetK X.prog X.w a (hasK ks) ks.length) := by rw [o1]; exact hO
          refine ⟨a, k, _, _, rfl, by rw [key_ok r1 hk], s1.o _ _ hO1, Nat.lt_of_lt_of_le (Nat.succ_lt_succ hlt) (by decide), ?_⟩
          exact w1 _ _ _ (le1.trans (Le.own W1 _)) (s1.ownPut hO1) ((lr.mono le1 o1).ownSet hl ha (c' := .set (addK ks k)) (show _ = SetK _ _ _ (hasK (addK ks k)) (addK ks k).length by rw [addK_has, addK_len]))
        · exact w1.elim
      · exact w1.elim
  · exact w.elim⟩
theorem jt_inO {neg : Bool} (hp : ∀ {t : TE}, PE X e t → PT X a (tTest (tOp (rSInK X.prog X.w neg) t (tVar i)))) (he : JE X z e fe) : JT X z a (bInO neg i fe) := ⟨fun B Er tk => pt_imp (hp (he.run B Er tk)) fun σ H Q ⟨W, cs, l, s, lr, w⟩ => by
  refine ⟨W, cs, l, s, lr, wp_imp (wp_bd.mp w) (fun d cs1 w1 W1 v1 H1 le1 o1 s1 r1 => ?_) fun _ _ h => h⟩
  split at w1
  · rename_i ks k hl hk
    obtain ⟨a, o, ha, hO, _, ho⟩ := lr.sl i _ hl
    have ho' : o = SetK X.prog X.w a (hasK ks) ks.length := ho
    subst ho'
    have hO1 : W1.O a = some (SetK X.prog X.w a (hasK ks) ks.length) := by rw [o1]; exact hO
    have q := w1 W1 H1 le1 o1 s1
    refine ⟨_, ha, k, a, _, _, key_ok r1 hk, rfl, s1.o _ _ hO1, _, rfl, ?_⟩
    cases neg with
    | false => rw [Bool.bne_false] at q; exact q
    | true => rw [Bool.bne_true] at q; exact q
  · exact w1.elim⟩
end
end F

/-! isinstance, chains, several targets, truth, repr -/
namespace F
open PySem PySem.Spec PyProof.Rows L2 Evl
def dIsi (T : Tb) (cs : Cells) : List D → Option D
  | [x, y] => match tagOf cs x, y with
    | some (.b n), .ty m => (isiB n m).map .bl
    | some (.b n), .cls c => (T.is (.b n) (.c c)).map .bl
    | some (.c k), .cls c => if T.has k = true then (T.is (.c k) (.c c)).map .bl else none
    | some (.c k), .ty m => if T.has k = true then (T.is (.c k) (.b m)).map .bl else none
    | _, _ => none
  | _ => none
section
variable {Z : Sx} {W : Wd} {cs : Cells} {H : Hp} {v : V} {d : D}
theorem tyT {a : Addr} {xs : List V} {K : PySem.W.Frag} (h : SqT K H a xs) : TyX K H (.ref a) (.type "tuple") := by
  rcases h with (h | ⟨o, h⟩) | ⟨o, its, n, h1, h2, _⟩
  · exact .base (.tup h)
  · exact .fTuple h
  · exact .kTuple h1 h2
theorem tyL {a : Addr} {xs : List V} {K : PySem.W.Frag} (h : SqL K H a xs) : TyX K H (.ref a) (.type "list") := by
  rcases h with (h | ⟨o, h⟩) | ⟨o, its, n, h1, h2, _⟩
  · exact .base (.lst h)
  · exact .base (.frz h)
  · exact .kList h1 h2
theorem tag_b (s : S Z W cs H) (r : Rep Z W v d) {n : String} (h : tagOf cs d = some (.b n)) : TyX Z.K H v (.type n) := by
  cases r with
  | non => cases h; exact .base .non
  | bl b => cases h; exact .base (.bl b)
  | int i => cases h; exact .base (.int i)
  | str _ => cases h; exact .base (.str _)
  | tup q _ => cases h; exact tyT (ex_t s.g q)
  | lst q _ => cases h; exact .base (.lst (s.g _ _ q))
  | wls q _ => cases h; exact tyL (ex_l s.g q)
  | ins _ _ _ => cases h
  | @cel m a hi =>
    have h' : (match cs[m]? with | some (.lst _) => some (Tag.b "list") | some (.ins c _) => some (.c c) | some (.dct _) => some (.b "dict") | _ => none) = some (.b n) := h
    split at h'
    · rename_i xs hc
      cases h'
      obtain ⟨_, u, hu, us, e, _⟩ := s.at_ m a _ hi hc (fun z => nomatch z)
      subst e
      exact .base (.lst hu)
    · cases h'
    · rename_i xs hc
      cases h'
      obtain ⟨_, u, hu, us, e, _⟩ := s.at_ m a _ hi hc (fun z => nomatch z)
      subst e
      exact .base (.dK hu)
    · cases h'
  | _ => cases h
theorem tag_c {T : Tb} (t : TbOk Z T) (s : S Z W cs H) (r : Rep Z W v d) {c : Str} (h : tagOf cs d = some (.c c)) (hh : T.has c = true) : ∃ Cl, Z.mg c = some (.ref Cl) ∧ TyX Z.K H v (.ref Cl) := by
  cases r with
  | ins m e _ => cases h; exact ⟨_, m, (t.has_ok hh m).ty (s.g _ _ e)⟩
  | @cel m a hi =>
    have h' : (match cs[m]? with | some (.lst _) => some (Tag.b "list") | some (.ins c _) => some (.c c) | some (.dct _) => some (.b "dict") | _ => none) = some (.c c) := h
    split at h'
    · cases h'
    · rename_i k fs hc
      cases h'
      obtain ⟨_, u, hu, Cl, dx, us, m, e, _⟩ := s.at_ m a _ hi hc (fun z => nomatch z)
      subst e
      exact ⟨Cl, m, (t.has_ok hh m).ty hu⟩
    · cases h'
    · cases h'
  | _ => cases h
end
theorem cd_isi {X : Cx} {T : Tb} (t : TbOk (sx X) T) : CallR X (.builtin "isinstance") (rN (sx X) (dIsi T)) := CallR.im call_isi fun xs H Q ⟨W, cs, ds, r, s, rx, h, k⟩ => by
  unfold dIsi at h
  split at h
  · rename_i x y
    cases rx with
    | cons r1 r2 =>
      cases r2 with
      | cons r2 r3 =>
        cases r3
        split at h
        · rename_i n m q
          cases hb : isiB n m with
          | none => rw [hb] at h; cases h
          | some b =>
            rw [hb] at h
            cases h
            cases r2
            exact ⟨_, _, _, _, b, rfl, .ty m, tag_b s r1 q, kit_ty (isiB_ok hb), k W _ H (Le.refl _) rfl s (.bl b)⟩
        · rename_i n c q
          cases hb : T.is (.b n) (.c c) with
          | none => rw [hb] at h; cases h
          | some b =>
            rw [hb] at h
            cases h
            cases r2 with
            | cls m =>
              obtain ⟨t1, u1, e1, e2, e3⟩ := t.is_ok hb
              cases e1
              have e2' : X.mg c = some u1 := e2
              rw [show X.mg c = some (.ref _) from m] at e2'
              cases e2'
              exact ⟨_, _, _, _, b, rfl, .own _, tag_b s r1 q, e3, k W _ H (Le.refl _) rfl s (.bl b)⟩
        · rename_i k0 c q
          split at h
          · rename_i hh
            cases hb : T.is (.c k0) (.c c) with
            | none => rw [hb] at h; cases h
            | some b =>
              rw [hb] at h
              cases h
              cases r2 with
              | cls m =>
                obtain ⟨t1, u1, e1, e2, e3⟩ := t.is_ok hb
                obtain ⟨Cl, m1, ty⟩ := tag_c t s r1 q hh
                have e1' : X.mg k0 = some t1 := e1
                rw [show X.mg k0 = some (.ref Cl) from m1] at e1'
                cases e1'
                have e2' : X.mg c = some u1 := e2
                rw [show X.mg c = some (.ref _) from m] at e2'
                cases e2'
                exact ⟨_, _, _, _, b, rfl, .own _, ty, e3, k W _ H (Le.refl _) rfl s (.bl b)⟩
          · cases h
        · rename_i k0 m q
          split at h
          · rename_i hh
            cases hb : T.is (.c k0) (.b m) with
            | none => rw [hb] at h; cases h
            | some b =>
              rw [hb] at h
              cases h
              cases r2
              obtain ⟨t1, u1, e1, e2, e3⟩ := t.is_ok hb
              obtain ⟨Cl, m1, ty⟩ := tag_c t s r1 q hh
              have e1' : X.mg k0 = some t1 := e1
              rw [show X.mg k0 = some (.ref Cl) from m1] at e1'
              cases e1'
              cases e2
              exact ⟨_, _, _, _, b, rfl, .ty m, ty, e3, k W _ H (Le.refl _) rfl s (.bl b)⟩
          · cases h
        · cases h
  · cases h
/-! chains -/
def xChain (g g' : Cells → D → D → Option D) (fa fb fc : XE) : XE := fun l => bd (fa l) fun x => bd (fb l) fun y => bd (rd fun cs => g cs x y) fun r => bd (asB r) fun b => if b = true then bd (fc l) fun w => rd fun cs => g' cs y w else rt (.bl false)
section
variable {X : Cx} {z : ZT} {e a b c : Expr} {fa fb fc : XE} {g g' : Cells → D → D → Option D}
/-- the first answer is a truth that leaves the heap as it is -/
def Flat (g : Cells → D → D → Option D) : Prop := ∀ cs x y r, g cs x y = some r → ∃ b, r = .bl b
theorem chain_ {B : Wd} {Er : Exn → Loc → Cells → Prop} {σ : L2.St} {H : Hp} {Q : VK} (h : tE (sx X) z B (xChain g g' fa fb fc) Er σ H Q) : tChain (r2 (sx X) g) (r2 (sx X) g') (tE (sx X) z B fa Er) (tE (sx X) z B fb Er) (tE (sx X) z B fc Er) σ H Q := by
  obtain ⟨W, cs, l, s, lr, w⟩ := h
  refine ⟨W, cs, l, s, lr, wp_imp (wp_bd.mp w) (fun d cs1 w1 W1 v1 H1 le1 o1 s1 r1 => ?_) fun _ _ h => h⟩
  refine ⟨W1, cs1, l, s1, lr.mono le1 o1, wp_imp (wp_bd.mp w1) (fun e cs2 w2 W2 v2 H2 le2 o2 s2 r2 => ?_) fun _ _ h => h⟩
  obtain ⟨r, hr, w3⟩ := wp_rd.mp (wp_bd.mp w2)
  obtain ⟨k, rfl, w4⟩ := asB_ok (wp_bd.mp w3)
  refine ⟨W2, cs2, d, e, _, s2, r1.mono le2, r2, hr, fun W3 v3 H3 le3 o3 s3 r3 => ?_⟩
  cases rep_bl r3
  refine ⟨k, rfl, ?_⟩
  have leA := (le1.trans le2).trans le3
  have oA := o3.trans (o2.trans o1)
  cases k with
  | true =>
    refine iteT ⟨W3, cs2, l, s3, lr.mono leA oA, wp_imp (wp_bd.mp w4) (fun f cs4 w5 W4 v4 H4 le4 o4 s4 r4 => ?_) fun _ _ h => h⟩
    obtain ⟨r', hr', w6⟩ := wp_rd.mp w5
    exact ⟨W4, cs4, e, f, r', s4, (r2.mono le3).mono le4, r4, hr', fun W5 v5 H5 le5 o5 s5 r5 => w6 W5 v5 H5 ((leA.trans le4).trans le5) (o5.trans (o4.trans oA)) s5 r5⟩
  | false => exact iteF (w4 W3 (.bl false) H3 leA oA s3 (.bl false))
theorem je_chain (hp : ∀ {t u w : TE}, PE X a t → PE X b u → PE X c w → PE X e (tChain (r2 (sx X) g) (r2 (sx X) g') t u w)) (ha : JE X z a fa) (hb : JE X z b fb) (hc : JE X z c fc) : JE X z e (xChain g g' fa fb fc) :=
  ⟨fun B Er tk => pe_imp (hp (ha.run B Er tk) (hb.run B Er tk) (hc.run B Er tk)) fun σ H Q h => chain_ h⟩
theorem jt_chain (hp : ∀ {t u w : TE}, PE X a t → PE X b u → PE X c w → PT X e (tTest (tChain (r2 (sx X) g) (r2 (sx X) g') t u w))) (ha : JE X z a fa) (hb : JE X z b fb) (hc : JE X z c fc) : JT X z e (bV (xChain g g' fa fb fc)) :=
  ⟨fun B Er tk => pt_imp (hp (ha.run B Er tk) (hb.run B Er tk) (hc.run B Er tk)) fun σ H Q h => chain_ (bV_ok h)⟩
end
/-! truth -/
def truD (cs : Cells) (d : D) : Option Bool := match d with
  | .non => some false
  | .bl b => some b
  | .int i => some (i != 0)
  | .str x => some ((x.length : Int) != 0)
  | d => (seqOf cs d).map fun xs => !xs.isEmpty
def bTru (f : XE) : XB := fun l => bd (f l) fun d => rd fun cs => truD cs d
theorem tru_of {Z : Sx} {W : Wd} {cs : Cells} {H : Hp} {v : V} {d : D} {b : Bool} (s : S Z W cs H) (r : Rep Z W v d) (h : truD cs d = some b) : TruV Z.K v H b := by
  have seq : ∀ {xs : List D}, seqOf cs d = some xs → b = !xs.isEmpty → TruV Z.K v H b := fun {xs} q e => by
    obtain ⟨a, us, rfl, hs, ra⟩ := seq_ok s r q
    have e2 : us.isEmpty = xs.isEmpty := by cases ra <;> rfl
    rcases hs with hs | hs
    · exact .inl ⟨us, hs, by rw [e, e2]⟩
    · exact .inr (.inl ⟨us, hs, by rw [e, e2]⟩)
  unfold truD at h
  split at h
  · cases h; cases r; rfl
  · cases h; cases r; rfl
  · cases h; cases r; rfl
  · cases h
    obtain ⟨rfl, hl⟩ := rep_str r
    exact ⟨hl, rfl⟩
  · cases q : seqOf cs d with
    | none => rw [q] at h; cases h
    | some xs => rw [q] at h; cases h; exact seq q rfl
theorem jt_tru {X : Cx} {z : ZT} {e : Expr} {fe : XE} (h : JE X z e fe) (he : ∀ whole, isTrue e X.env whole = (do let v ← whole; standAt e.pos; holding [v] (truthy v)) := by intro _; rfl) : JT X z e (bTru fe) := ⟨fun B Er tk => pt_imp (pt_truth (h.run B Er tk) he) fun σ H Q ⟨W, cs, l, s, lr, w⟩ => by
  refine ⟨W, cs, l, s, lr, wp_imp (wp_bd.mp w) (fun d cs1 w1 W1 v1 H1 le1 o1 s1 r1 => ?_) fun _ _ h => h⟩
  obtain ⟨r, hr, k⟩ := wp_rd.mp w1
  exact ⟨r, tru_of s1 r1 hr, k W1 H1 le1 o1 s1⟩⟩
/-! several names -/
def sPar2 (i j : Nat) (f : XA) : XS := fun l cs => onE (f l) l cs fun ds cs' => match ds with
  | [a, b] => .go (.nx ((l.set i (.val a)).set j (.val b))) cs'
  | _ => .no
def sPar3 (i j k : Nat) (f : XA) : XS := fun l cs => onE (f l) l cs fun ds cs' => match ds with
  | [a, b, c] => .go (.nx (((l.set i (.val a)).set j (.val b)).set k (.val c))) cs'
  | _ => .no
section
variable {X : Cx} {z : ZT} {st : Stmt} {es : List Expr} {f : XA} {i j k : Nat}
theorem js_par2 (hp : ∀ {t : TA}, PA X es t → PS X st (tPar i j t)) (h : JA X z es f) : JS X z st (sPar2 i j f) := ⟨fun B Er tk => ps_imp (hp (h.run B Er tk)) fun D σ H ⟨W, cs, l, s, lr, w⟩ => by
  refine ⟨W, cs, l, s, lr, wp_imp (wpS_onE.mp w) (fun ds cs1 w1 W1 vs H1 le1 o1 s1 r1 => ?_) fun _ _ h => h⟩
  split at w1
  · cases r1 with
    | cons r1 r2 =>
      cases r2 with
      | cons r2 r3 =>
        cases r3
        exact ⟨_, _, rfl, w1 W1 _ H1 le1 s1 (((lr.mono le1 o1).set r1).set r2)⟩
  · exact w1.elim⟩
theorem js_par3 (hp : ∀ {t : TA}, PA X es t → PS X st (tPar3 i j k t)) (h : JA X z es f) : JS X z st (sPar3 i j k f) := ⟨fun B Er tk => ps_imp (hp (h.run B Er tk)) fun D σ H ⟨W, cs, l, s, lr, w⟩ => by
  refine ⟨W, cs, l, s, lr, wp_imp (wpS_onE.mp w) (fun ds cs1 w1 W1 vs H1 le1 o1 s1 r1 => ?_) fun _ _ h => h⟩
  split at w1
  · cases r1 with
    | cons r1 r2 =>
      cases r2 with
      | cons r2 r3 =>
        cases r3 with
        | cons r3 r4 =>
          cases r4
          exact ⟨_, _, _, rfl, w1 W1 _ H1 le1 s1 ((((lr.mono le1 o1).set r1).set r2).set r3)⟩
  · exact w1.elim⟩
end
/-! repr -/
def dRepr (cs : Cells) : List D → Option D
  | [.non] => some (.str "None")
  | [.bl b] => some (.str (if b then "True" else "False"))
  | [.int i] => if (decide (i.natAbs.log2 < 1920) && fitB (toString i : Str).length) = true then some (.str (toString i)) else none
  | [.str x] => if fitB (reprText x).length = true then some (.str (reprText x)) else none
  | [d] => match toP cs d with
    | some p => if ((!p.hasDict && p.showable) && (decide (p.depth ≤ 60) && fitB p.shown.length)) = true then some (.str p.shown) else none
    | none => none
  | _ => none
theorem cd_repr {X : Cx} (hg : X.A.guards = some []) (hu : X.A.units + 64 < cLine) : CallR X (.builtin "repr") (rN (sx X) dRepr) := by
  intro pins s σ H xs us Q I rv h
  obtain ⟨W, cs, ds, r, ss, rx, h, k⟩ := h
  unfold dRepr at h
  split at h
  · cases h
    cases rx with
    | cons r1 r2 =>
      cases r2
      cases r1
      obtain ⟨u, rfl, ru⟩ := vals1 rv
      cases ru
      exact PySem.P.repr_of_none ⟨.str "None", H, I.tok _, ⟨_, rfl⟩, k W _ H (Le.refl _) rfl ss (.str (by decide +kernel))⟩
  · rename_i b
    cases h
    cases rx with
    | cons r1 r2 =>
      cases r2
      cases r1
      obtain ⟨u, rfl, ru⟩ := vals1 rv
      cases ru
      exact PySem.P.repr_of_bool ⟨.str _, H, I.tok _, ⟨_, rfl⟩, k W _ H (Le.refl _) rfl ss (.str (by cases b <;> decide +kernel))⟩
  · rename_i i
    split at h
    · rename_i c
      cases h
      obtain ⟨c1, c2⟩ := Bool.and_eq_true_iff.mp c
      cases rx with
      | cons r1 r2 =>
        cases r2
        cases r1
        obtain ⟨u, rfl, ru⟩ := vals1 rv
        obtain ⟨t, rfl⟩ := ru
        exact PySem.P.repr_of_int (of_decide_eq_true c1) ⟨.str _, H, I.tok _, ⟨_, rfl⟩, k W _ H (Le.refl _) rfl ss (.str (fitB_ok c2))⟩
    · cases h
  · rename_i x
    split at h
    · rename_i c
      cases h
      cases rx with
      | cons r1 r2 =>
        cases r2
        cases r1
        obtain ⟨u, rfl, ru⟩ := vals1 rv
        obtain ⟨t, rfl⟩ := ru
        exact PySem.P.repr_of_str ⟨.str _, H, I.tok _, ⟨_, rfl⟩, k W _ H (Le.refl _) rfl ss (.str (fitB_ok c))⟩ (fitB_ok c)
    · cases h
  · rename_i d n1 n2 n3 n4
    split at h
    · rename_i p q
      split at h
      · rename_i c
        cases h
        obtain ⟨c1, c2⟩ := Bool.and_eq_true_iff.mp c
        obtain ⟨c3, c4⟩ := Bool.and_eq_true_iff.mp c1
        obtain ⟨c5, c6⟩ := Bool.and_eq_true_iff.mp c2
        cases rx with
        | cons r1 r2 =>
          cases r2
          obtain ⟨u, rfl, ru⟩ := vals1 rv
          have dp := dp_ok ss r1 q
          obtain ⟨as, rd⟩ := Dp.reads I p _ _ dp ru
          have isref : ∃ a, u = .ref a := by
            cases r1 with
            | non => exact absurd rfl n1
            | bl b => exact absurd rfl (n2 b)
            | int i => exact absurd rfl (n3 i)
            | str _ => exact absurd rfl (n4 _)
            | ty _ => cases q
            | _ => exact ⟨_, ru⟩
          obtain ⟨a, rfl⟩ := isref
          refine PySem.repr_of_reads' rd c4 (PyData.noDict_hsm (by simpa using c3)) hg (by have := of_decide_eq_true c5; omega) (fun _ _ e => e) (fun h' u tk hk => ?_) (fitB_ok c6)
          exact ⟨.str p.shown, H, I.kept (t' := tk) hk, ⟨_, rfl⟩, k W _ H (Le.refl _) rfl ss (.str (fitB_ok c6))⟩
      · cases h
    · cases h
  · cases h
end F

/-! defs -/
namespace F
open PySem PySem.Spec PyProof.Rows L2 Evl
structure RmG (k : Nat) (A : Around) : Prop where
  room : Room k A
  gd : A.guards = some []
theorem RmG.mono {j k : Nat} {A : Around} (r : RmG k A) (h : j ≤ k) : RmG j A := ⟨r.room.mono h, r.gd⟩
theorem RmG.deeper {k : Nat} {A : Around} (r : RmG (k + 1) A) (env : Env) : RmG k (A.deeper env) := ⟨r.room.deeper env, r.gd⟩
theorem RmG.make {k : Nat} {A : Around} (r : RmG (k + 1) A) (C : Addr) (us : List Value) (kw : List (Str × Value)) : RmG k (A.under (.builtin "type.__call__" ⟨.ref C :: us, kw⟩)) :=
  ⟨r.room.make C us kw, by have := r.gd; simp [Around.under, Code.guards, Code.isGuard, guardIds, pushGuards, this]⟩
def runB (b : XS) (l : Loc) : EM D := fun cs => match b l cs with
  | .go (.ret d) cs' => .ok d cs'
  | .go (.nx _) cs' => .ok .non cs'
  | .go (.ex x _) cs' => .exc x cs'
  | _ => .no
def startL (n : Nat) (ds : List D) : Loc := ds.map .val ++ List.replicate (n - ds.length) .emp
def fnB (n : Nat) (b : XS) (ds : List D) : EM D := runB b (startL n ds)
/-- an __init__: slot 0 owns the new instance -/
def runI (b : XS) (l : Loc) : EM D := fun cs => match b l cs with
  | .go (.nx l') cs' => match (l'[0]? : Option Sl) with
    | some (.own (.ins c fs)) => .ok (.ins c fs) cs'
    | some (.me d) => .ok d cs'
    | _ => .no
  | .go (.ex x _) cs' => .exc x cs'
  | _ => .no
def iniB (n : Nat) (b : XS) (c : Str) (ds : List D) : EM D := runI b (.own (.ins c []) :: (ds.map .val ++ List.replicate (n - 1 - ds.length) .emp))
def okP (Z : Sx) (W : Wd) (Q : VK) : D → Cells → Prop := fun d cs' => ∀ W' v H', Le W W' → W'.O = W.O → S Z W' cs' H' → Rep Z W' v d → Q v H'
def exP (Z : Sx) (W : Wd) (E : XK) : Exn → Cells → Prop := fun x cs' => ∀ W' cls dx H', Le W W' → W'.O = W.O → S Z W' cs' H' → RX Z W' cls dx x → E cls dx H'
def spF (Z : Sx) (F : List D → List D → EM D) : List V → List V → Hp → VK → XK → Prop := fun vs zs H Q E => ∃ W cs ds es, S Z W cs H ∧ RepA Z W vs ds ∧ RepA Z W zs es ∧ wp (F ds es) cs (okP Z W Q) (exP Z W E)
def FnG (P : Program) (w : World) (K : PySem.W.Frag) (mg : Str → Option Value) (base : Heap) (k : Nat) (f : Addr) (kn : List Str) (F : List D → List D → EM D) : Prop :=
  ∀ (A : Around) (outer : List Env) (s : Shared) (H : Hp) (us : List Value) (vs : List V) (ws : List Value) (zs : List V) (Q : VK) (E : XK), RmG k A → Env0 P w K mg base A outer s H → Vals vs us → Vals zs ws → zs.length = kn.length → spF ⟨P, w, K, mg⟩ F vs zs H Q E →
    codeAny (model P w) A (.call (.ref f) ⟨us, kn.zip ws⟩) (CR (L2.CX P w) outer P w H s Q E) s
theorem FnG.mono {P : Program} {w : World} {K : PySem.W.Frag} {mg : Str → Option Value} {base : Heap} {j k : Nat} {f : Addr} {kn : List Str} {F : List D → List D → EM D} (h : FnG P w K mg base j f kn F) (hk : j ≤ k) : FnG P w K mg base k f kn F := fun A outer s H us vs ws zs Q E r => h A outer s H us vs ws zs Q E (r.mono hk)
/-- the new instance at x is owned: O0 is what was owned before -/
def spI (Z : Sx) (c : Str) (F : List D → List D → EM D) (x : Addr) : List V → List V → Hp → VK → XK → Prop := fun vs zs H Q E => ∃ W Cl dx O0 cs ds es, Z.mg c = some (.ref Cl) ∧ O0 x = none ∧ W.O = upd O0 x (.ins Cl dx []) ∧ S Z W cs H ∧ RepA Z W vs ds ∧ RepA Z W zs es ∧
  wp (F ds es) cs (fun d cs' => ∀ W' H', Le W W' → W'.O = O0 → S Z W' cs' H' → Rep Z W' (.ref x) d → Q .non H') (fun e cs' => ∀ W' cls d H', Le W W' → W'.O = O0 → S Z W' cs' H' → RX Z W' cls d e → E cls d H')
def FnI (P : Program) (w : World) (K : PySem.W.Frag) (mg : Str → Option Value) (base : Heap) (k : Nat) (f : Addr) (c : Str) (kn : List Str) (F : List D → List D → EM D) : Prop :=
  ∀ (A : Around) (outer : List Env) (s : Shared) (H : Hp) (x : Addr) (us : List Value) (vs : List V) (ws : List Value) (zs : List V) (Q : VK) (E : XK), RmG k A → Env0 P w K mg base A outer s H → Vals vs us → Vals zs ws → zs.length = kn.length → spI ⟨P, w, K, mg⟩ c F x vs zs H Q E →
    codeAny (model P w) A (.call (.ref f) ⟨.ref x :: us, kn.zip ws⟩) (CR (L2.CX P w) outer P w H s Q E) s
/-! ### how arguments are bound -/
/-- pre: leading values as they are (self); arr: what the parameters behind them get -/
def Shp (P : Program) (w : World) (K : PySem.W.Frag) (mg : Str → Option Value) (base : Heap) (fd : FuncData) (ps : List Str) (np : Nat) (kn : List Str) (arr : List D → List D → Option (List D)) : Prop :=
  ∀ (A : Around) (outer : List Env) (s : Shared) (H : Hp) (E : XK) (W : Wd) (cs : Cells) (ds es bs : List D) (pre vs zs : List V) (pu us ws : List Value), Env0 P w K mg base A outer s H → S ⟨P, w, K, mg⟩ W cs H → Vals pre pu → pre.length = np → Vals vs us → Vals zs ws → zs.length = kn.length →
    RepA ⟨P, w, K, mg⟩ W vs ds → RepA ⟨P, w, K, mg⟩ W zs es → arr ds es = some bs →
    StX.Bnd (L2.CX P w) P w K mg base fd ⟨pu ++ us, kn.zip ws⟩ ps A outer s H E (fun xs H2 => ∃ W' ys, xs = pre ++ ys ∧ xs.length = ps.length ∧ Le W W' ∧ W'.O = W.O ∧ S ⟨P, w, K, mg⟩ W' cs H2 ∧ RepA ⟨P, w, K, mg⟩ W' ys bs)
def arrP (m np : Nat) (dd : List D) : List D → List D → Option (List D) := fun ds es => match es with
  | [] => if np + ds.length + dd.length = m then some (ds ++ dd) else none
  | _ => none
def arrS (m : Nat) (arrK : List D → Option (List D)) : List D → List D → Option (List D) := fun ds es => match arrK es with
  | some ks => if m ≤ ds.length ∧ ds.length ≤ 1000000 then some (ds.take m ++ (ks ++ [.tup (ds.drop m)])) else none
  | none => none
section
variable {P : Program} {w : World} {K : PySem.W.Frag} {mg : Str → Option Value} {base : Heap} {k : Nat} {f : Addr} {name qual : Str} {params : Arguments} {body : List Stmt} {scope : Scope} {dvs : List V} {kws : List (Str × V)} {fd : FuncData} {N ps kn : List Str} {b : XS} {arr : List D → List D → Option (List D)}
theorem shp_pos {ds0 : List Value} {dv : List V} {dd : List D} {np : Nat} (bi : Binds K fd ps ds0) (rv : Vals dv ds0) (rd : ∀ W, RepA ⟨P, w, K, mg⟩ W dv dd) : Shp P w K mg base fd ps np [] (arrP ps.length np dd) := by
  intro A outer s H E W cs ds es bs pre vs zs pu us ws e0 ss rp lp r rz lz ra rz' h A' Ex Q q
  unfold arrP at h
  split at h
  · split at h
    · rename_i hl
      cases h
      have KX : K.In s.heap := e0.mod.kin.keeps fun b o e => (e0.bs b o e).1
      have r2 : Vals ((pre ++ vs) ++ dv) ((pu ++ us) ++ ds0) := (rp.append r).append rv
      have ln : ((pre ++ vs) ++ dv).length = ps.length := by
        have h1 := ra.length
        have h2 := (rd W).length
        rw [List.length_append, List.length_append]
        omega
      refine bi s (pu ++ us) KX (by rw [← r2.length]; exact ln) _ _ _ _ ?_
      refine q s H ((pre ++ vs) ++ dv) ((pu ++ us) ++ ds0) e0 Un.refl rfl (fun _ _ z => z) r2 ln ⟨W, vs ++ dv, by rw [List.append_assoc], ln, Le.refl _, rfl, ss, ra.append (rd W)⟩
    · cases h
  · cases h
theorem _root_.L2.FnScope.le {N ps : List Str} {sc : Scope} (h : FnScope N ps sc) : ps.length ≤ N.length := by
  have := congrArg List.length h.pre
  rw [List.length_take] at this
  omega
theorem S.drop {Z : Sx} {W : Wd} {cs : Cells} {H O0 : Hp} (s : S Z W cs H) (h : Ex O0 W.O) : S Z { W with O := O0 } cs H where
  g := s.g
  o := h.trans s.o
  dj := fun a u e => s.dj a u (h a u e)
  len := s.len
  nd := s.nd
  al := s.al
  fo := fun a ha => by
    show O0 a = none
    cases q : O0 a with
    | none => rfl
    | some u => rw [← s.fo a ha, h a u q]
  at_ := fun n a c e1 e2 e3 => by
    obtain ⟨g, u, e, r⟩ := s.at_ n a c e1 e2 e3
    exact ⟨g, u, e, r.mono (Le.own W _)⟩
theorem rep_start {Z : Sx} {z : ZT} {W : Wd} : ∀ {vs : List V} {ds : List D}, RepA Z W vs ds → ∀ (i : Nat) (s : Sl), (ds.map Sl.val)[i]? = some s → SlOk Z z W W s ((vs.map some)[i]?)
  | _, _, .nil, i, s, h => by simp at h
  | _, _, .cons r t, 0, s, h => by simp at h; subst h; exact ⟨_, by simp, r⟩
  | _, _, .cons r t, i + 1, s, h => by
    have := rep_start (z := z) t i s (by simpa using h)
    simpa using this
theorem slot_val {ds : List D} {n i : Nat} {s : Sl} (h : (ds.map Sl.val ++ List.replicate n Sl.emp)[i]? = some s) : (ds.map Sl.val)[i]? = some s ∨ s = .emp := by
  by_cases hi : i < (ds.map Sl.val).length
  · rw [List.getElem?_append_left hi] at h
    exact .inl h
  · rw [List.getElem?_append_right (by omega), List.getElem?_replicate] at h
    split at h
    · cases h; exact .inr rfl
    · cases h
theorem LR.start {Z : Sx} {W : Wd} {vs : List V} {ds : List D} (r : RepA Z W vs ds) (hl : vs.length ≤ N.length) : LR Z {} W W (startL N.length ds) (L2.start N vs) := by
  have e := r.length
  refine ⟨?_, fun i s h => ?_, fun i j c c' a h1 _ _ _ => ?_, Le.refl _, Ex.refl _⟩
  · unfold startL L2.start
    rw [List.length_append, List.length_append, List.length_map, List.length_map, List.length_replicate, List.length_replicate]
    omega
  · rcases slot_val h with h | h
    · have hi : i < (vs.map some).length := by
        have := (List.getElem?_eq_some_iff.mp h).1
        rw [List.length_map] at this ⊢
        omega
      unfold L2.start
      rw [List.getElem?_append_left hi]
      exact rep_start r i s h
    · subst h
      exact True.intro
  · rcases slot_val h1 with h | h
    · rw [List.getElem?_map] at h
      cases q : ds[i]? with
      | none => rw [q] at h; cases h
      | some d => rw [q] at h; cases h
    · cases h
/-- THE RULE of a def -/
theorem fnG_of (F : FunD K name qual params body scope dvs kws f fd) (Sc : FnScope N ps scope) (sh : Shp P w K mg base fd ps 0 kn arr)
    (hb : ∀ (cdv : Value) (A : Around) (outer : List Env) (s : Shared) (H : Hp) (E : XK), RmG k (A.deeper (envOfC qual scope s.heap.objs.size f cdv)) → JSs (cxOf (L2.CX P w) P w K mg base N qual scope f cdv A outer s H E) {} body b) :
    FnG P w K mg base (k + 1) f kn (fun ds es => match arr ds es with
      | some bs => fnB N.length b bs
      | none => no) := by
  intro A outer s H us vs ws zs Q E hr e0 r rz lz hsp
  obtain ⟨W, cs, ds, es, ss, ra, rz', wq⟩ := hsp
  obtain ⟨oc, od, dV, kV, doc, pm, an, cdv, ct, osl, rfl, lk, hcd, _, _⟩ := F.ex
  cases q : arr ds es with
  | none => simp only [q] at wq; exact wq.elim
  | some bs =>
    simp only [q] at wq
    refine StX.run_bnd lk hcd Sc hr.room e0 (sh A outer s H E W cs ds es bs [] vs zs [] us ws e0 ss .nil rfl r rz lz ra rz' q) fun s2 H2 xs G hr' => ?_
    obtain ⟨W2, ys, ex, lx, le2, o2, s2', rb⟩ := G
    have ex' : xs = ys := ex
    subst ex'
    have J := hb cdv A outer s2 H2 E (hr.deeper _)
    have tk : Takes (cxOf (L2.CX P w) P w K mg base N qual scope f cdv A outer s2 H2 E) (wx ⟨P, w, K, mg⟩ {} W2 fun x _ cs' => exP ⟨P, w, K, mg⟩ W E x cs') :=
      (takes_of (E := E) rfl rfl rfl rfl).imp fun cls d σ H ⟨W3, cs3, l3, x3, s3, lr3, rx3, e3⟩ => e3 { W3 with O := W.O } cls d H ((le2.trans lr3.base.1).trans (Le.own W3 _)) rfl (s3.drop (by rw [← o2]; exact lr3.base.2)) (rx3.mono (Le.own W3 _))
    refine ⟨_, J.run W2 _ tk, W2, cs, startL N.length bs, s2', ?_, ?_⟩
    · exact LR.start rb (by rw [lx]; exact Sc.le)
    · unfold wp fnB runB at wq
      cases qb : b (startL N.length bs) cs with
      | no => rw [qb] at wq; exact wq.elim
      | go fl cs' =>
        rw [qb] at wq
        have leB : ∀ {W3 : Wd}, Le W2 W3 → Le W { W3 with O := W.O } := fun {W3} h => (le2.trans h).trans (Le.own W3 _)
        cases fl with
        | ret d => exact fun W3 v3 H3 le3 s3 o3 r3 => wq { W3 with O := W.O } v3 H3 (leB le3) rfl (s3.drop (by rw [← o2]; exact o3)) (r3.mono (Le.own W3 _))
        | nx l' => exact fun W3 σ3 H3 le3 s3 lr3 => wq { W3 with O := W.O } .non H3 (leB le3) rfl (s3.drop (by rw [← o2]; exact lr3.base.2)) .non
        | ex x l' => exact wq
        | bk l' => exact wq.elim
        | ct l' => exact wq.elim
/-- THE RULE of an __init__ -/
theorem fnI_of {c : Str} (F : FunD K name qual params body scope dvs kws f fd) (Sc : FnScope N ps scope) (sh : Shp P w K mg base fd ps 1 kn arr)
    (hb : ∀ (x : Addr) (cdv : Value) (A : Around) (outer : List Env) (s : Shared) (H : Hp) (E : XK), RmG k (A.deeper (envOfC qual scope s.heap.objs.size f cdv)) → JSs (cxOf (L2.CX P w) P w K mg base N qual scope f cdv A outer s H E) { me := some x } body b) :
    FnI P w K mg base (k + 1) f c kn (fun ds es => match arr ds es with
      | some bs => iniB N.length b c bs
      | none => no) := by
  intro A outer s H x us vs ws zs Q E hr e0 r rz lz hsp
  obtain ⟨W, Cl, dx, O0, cs, ds, es, hm, hx, hO, ss, ra, rz', wq⟩ := hsp
  obtain ⟨oc, od, dV, kV, doc, pm, an, cdv, ct, osl, rfl, lk, hcd, _, _⟩ := F.ex
  cases q : arr ds es with
  | none => simp only [q] at wq; exact wq.elim
  | some bs =>
    simp only [q] at wq
    refine StX.run_bnd lk hcd Sc hr.room e0 (sh A outer s H E W cs ds es bs [.ref x] vs zs [.ref x] us ws e0 ss (.cons rfl .nil) rfl r rz lz ra rz' q) fun s2 H2 xs G hr' => ?_
    obtain ⟨W2, ys, ex, lx, le2, o2, s2', rb⟩ := G
    subst ex
    have J := hb x cdv A outer s2 H2 E (hr.deeper _)
    have hO2 : W2.O = upd O0 x (.ins Cl dx []) := o2.trans hO
    have exO : Ex O0 W2.O := by rw [hO2]; exact Ex.new hx
    have hrest : ∀ {W3 : Wd}, Le { W2 with O := O0 } W3 → Le W { W3 with O := O0 } := fun {W3} h => (le2.trans (Le.own W2 O0)).trans (h.trans (Le.own W3 _))
    have tk : Takes (cxOf (L2.CX P w) P w K mg base N qual scope f cdv A outer s2 H2 E) (wx ⟨P, w, K, mg⟩ { me := some x } { W2 with O := O0 } fun e _ cs' => ∀ W' cls d H', Le W W' → W'.O = O0 → S ⟨P, w, K, mg⟩ W' cs' H' → RX ⟨P, w, K, mg⟩ W' cls d e → E cls d H') :=
      (takes_of (E := E) rfl rfl rfl rfl).imp fun cls d σ H ⟨W3, cs3, l3, x3, s3, lr3, rx3, e3⟩ => e3 { W3 with O := O0 } cls d H (hrest lr3.base.1) rfl (s3.drop lr3.base.2) (rx3.mono (Le.own W3 _))
    have hlen : ys.length + 1 ≤ N.length := by
      have h1 := Sc.le
      rw [← lx] at h1
      simpa using h1
    have lr0 : LR ⟨P, w, K, mg⟩ { me := some x } { W2 with O := O0 } W2 (.own (.ins c []) :: (bs.map .val ++ List.replicate (N.length - 1 - bs.length) .emp)) (L2.start N ([V.ref x] ++ ys)) := by
      have eb := rb.length
      have st : L2.start N ([V.ref x] ++ ys) = some (V.ref x) :: (ys.map some ++ List.replicate (N.length - 1 - ys.length) none) := by
        unfold L2.start
        have e1 : N.length - ([V.ref x] ++ ys).length = N.length - 1 - ys.length := by simp; omega
        rw [e1]
        rfl
      rw [st]
      have leO : Le { W2 with O := O0 } W2 := ⟨Ex.refl _, fun _ _ h => h⟩
      refine ⟨?_, fun i s h => ?_, fun i j c1 c2 a h1 h2 _ _ => ?_, leO, exO⟩
      · simp
        omega
      · cases i with
        | zero =>
          simp at h
          subst h
          exact ⟨x, _, rfl, by rw [hO2]; exact upd_same, ⟨hx, fun _ => rfl⟩, Cl, dx, [], hm, rfl, .nil⟩
        | succ i =>
          rw [List.getElem?_cons_succ] at h ⊢
          rcases slot_val h with h | h
          · have hi : i < (ys.map some).length := by
              have := (List.getElem?_eq_some_iff.mp h).1
              rw [List.length_map] at this ⊢
              omega
            rw [List.getElem?_append_left hi]
            have := rep_start (z := { me := some x }) rb i s h
            cases s with
            | val d => exact this
            | emp => exact True.intro
            | _ =>
              rw [List.getElem?_map] at h
              cases q2 : bs[i]? with
              | none => rw [q2] at h; cases h
              | some d => rw [q2] at h; cases h
          · subst h
            exact True.intro
      · have z : ∀ {m : Nat} {cc : C}, (Sl.own (.ins c []) :: (bs.map Sl.val ++ List.replicate (N.length - 1 - bs.length) Sl.emp))[m]? = some (.own cc) → m = 0 := fun {m cc} h => by
          cases m with
          | zero => rfl
          | succ m =>
            rw [List.getElem?_cons_succ] at h
            rcases slot_val h with h | h
            · rw [List.getElem?_map] at h
              cases q2 : bs[m]? with
              | none => rw [q2] at h; cases h
              | some d => rw [q2] at h; cases h
            · cases h
        rw [z h1, z h2]
    refine ⟨_, J.run { W2 with O := O0 } _ tk, W2, cs, _, s2', lr0, ?_⟩
    unfold wp iniB runI at wq
    cases qb : b (.own (.ins c []) :: (bs.map .val ++ List.replicate (N.length - 1 - bs.length) .emp)) cs with
    | no => rw [qb] at wq; exact wq.elim
    | go fl cs' =>
      rw [qb] at wq
      cases fl with
      | nx l' =>
        intro W3 σ3 H3 le3 s3 lr3
        dsimp only at wq
        split at wq
        · rename_i k' fs hl
          split at hl
          · rename_i c0 fs0 hl0
            cases hl
            obtain ⟨a, o, ha, hO3, ⟨hB, hme⟩, Cl', dx', us', m', e', rf⟩ := lr3.sl 0 _ hl0
            subst e'
            have hme' := hme rfl
            cases hme'
            refine wq { W3 with G := upd W3.G x (.ins Cl' dx' us'), O := O0 } H3 (le2.trans (le3.trans (Le.frz W3 (s3.dj x _ hO3)))) rfl (s3.ownFrz hO3 lr3.base.2 hx) (.ins m' upd_same (rf.mono (Le.frz W3 (s3.dj x _ hO3))))
          · rename_i d0 hl0
            cases hl
            obtain ⟨a, ha, hme, rd⟩ := lr3.sl 0 _ hl0
            cases hme
            exact wq { W3 with O := O0 } H3 (le2.trans (le3.trans (Le.own W3 _))) rfl (s3.drop lr3.base.2) (rd.mono (Le.own W3 _))
          · cases hl
        · rename_i x' cs'' hl
          split at hl
          · cases hl
          · cases hl
          · cases hl
        · exact wq.elim
      | ex e l' => exact wq
      | ret d => exact wq.elim
      | bk l' => exact wq.elim
      | ct l' => exact wq.elim
end
end F

/-! calls -/
namespace F
open PySem PySem.Spec PyProof.Rows L2 Evl
structure JK (X : Cx) (z : ZT) (kws : List Keyword) (f : XA) : Prop where
  run : ∀ (B : Wd) (Er : Exn → Loc → Cells → Prop), Takes X (wx (sx X) z B Er) → PK X kws (tA (sx X) z B f Er)
def xCall (Fn : List D → List D → EM D) (fa fk : XA) : XE := fun l => bd (fa l) fun ds => bd (fk l) fun ks => Fn ds ks
structure CalG (P : Program) (w : World) (K : PySem.W.Frag) (mg : Str → Option Value) (base : Heap) (k : Nat) (x : Str) (kn : List Str) (Fn : List D → List D → EM D) : Prop where
  ex : ∃ f, FnG P w K mg base k f kn Fn ∧ mg x = some (.ref f) ∧ PySem.W.keepIn K (.ref f) = true
structure MkrG (P : Program) (w : World) (K : PySem.W.Frag) (mg : Str → Option Value) (base : Heap) (k : Nat) (x : Str) (kn : List Str) (Fn : List D → List D → EM D) : Prop where
  ex : ∃ Cl f, Mk K Cl f ∧ FnI P w K mg base k f x kn Fn ∧ mg x = some (.ref Cl)
structure SttG (P : Program) (w : World) (K : PySem.W.Frag) (mg : Str → Option Value) (base : Heap) (k : Nat) (x m : Str) (kn : List Str) (Fn : List D → List D → EM D) : Prop where
  ex : ∃ Cl mc g, E.Stat K Cl mc m g ∧ FnG P w K mg base k g kn Fn ∧ mg x = some (.ref Cl)
section
variable {X : Cx} {z : ZT} {B : Wd} {Er : Exn → Loc → Cells → Prop} {k j : Nat} {g f : Addr} {kn : List Str} {Fn : List D → List D → EM D} {x m : Str} {p q pos apos kpos : Pos} {e o : Expr} {es : List Expr} {kws : List Keyword} {fa fk : XA} {fe : XE} {nm : Option Str}
theorem pk_im {t t' : TA} (h : PK X kws t) (k : ∀ σ H Q, t' σ H Q → t σ H Q) : PK X kws t' := ⟨fun pos pins s σ H Q I q => h.run pos pins s σ H Q I (k _ _ _ q)⟩
theorem jk_nil : JK X z [] aNil := ⟨fun B Eo tk => pk_im pk_nil fun σ H Q ⟨W, cs, l, s, lr, w⟩ => w W [] H (Le.refl _) rfl s .nil⟩
theorem jk_cons (ha : JE X z e fe) (hr : JK X z kws fk) : JK X z (⟨nm, e, kpos⟩ :: kws) (aCons fe fk) := ⟨fun B Eo tk => pk_im (pk_cons (ha.run B Eo tk) (hr.run B Eo tk)) fun σ H Q ⟨W, cs, l, s, lr, w⟩ => by
  refine ⟨W, cs, l, s, lr, wp_imp (wp_bd.mp w) (fun d cs1 w1 W1 v1 H1 le1 o1 s1 r1 => ?_) fun _ _ h => h⟩
  refine ⟨W1, cs1, l, s1, lr.mono le1 o1, wp_imp (wp_bd.mp w1) (fun ds cs2 w2 W2 vs H2 le2 o2 s2 r2 => ?_) fun _ _ h => h⟩
  exact w2 W2 (v1 :: vs) H2 (le1.trans le2) (o2.trans o1) s2 (.cons (r1.mono le2) r2)⟩
/-- the machine behind the arguments -/
def At2 (X : Cx) (z : ZT) (B : Wd) (Er : Exn → Loc → Cells → Prop) (σ : L2.St) (Q : VK) (Fn : List D → List D → EM D) (vs zs : List V) (H : Hp) : Prop :=
  ∃ W cs l ds ks, S (sx X) W cs H ∧ LR (sx X) z B W l σ ∧ RepA (sx X) W vs ds ∧ RepA (sx X) W zs ks ∧ wp (Fn ds ks) cs (okP (sx X) W Q) (fun x cs' => Er x l cs')
theorem run_G {pins : List (Addr × Obj)} {σ : L2.St} {H : Hp} {s : Shared} {Q : VK} {us ws : List Value} {vs zs : List V} (h : FnG X.prog X.w X.K X.mg X.base k g kn Fn) (hr : RmG k X.A) (tk : Takes X (wx (sx X) z B Er)) (I : Inv X pins σ H s) (r : Vals vs us) (rz : Vals zs ws) (l : zs.length = kn.length) (a : At2 X z B Er σ Q Fn vs zs H) :
    wpAny (model X.prog X.w) X.A (call (.ref g) us (kn.zip ws)) (EP X pins σ Q) X.xe s := by
  obtain ⟨W, cs, lo, ds, ks, ss, lr, ra, rk, w⟩ := a
  have hsp : spF (sx X) Fn vs zs H Q (WE (wx (sx X) z B Er) σ) := ⟨W, cs, ds, ks, ss, ra, rk, wp_imp w (fun _ _ h => h) fun x cs' e W' cls dx H' le o s' rx => ⟨W', cs', lo, x, s', lr.mono le o, rx, e⟩⟩
  refine wpAny_call (codeAny_mono (h X.A X.stack s H us vs ws zs Q _ hr I.env0 r rz l hsp) fun r s' hq => ?_)
  cases r with
  | error e => exact passAt tk σ pins H s e s' I hq
  | ok fl =>
    cases fl with
    | ret u => exact I.after hq
    | next => exact False.elim hq
    | brk => exact False.elim hq
    | cont => exact False.elim hq
/-- the arguments, then the keywords -/
theorem args2 {σ : L2.St} {H : Hp} {Q : VK} (h : tE (sx X) z B (xCall Fn fa fk) Er σ H Q) : tA (sx X) z B fa Er σ H fun vs H1 => tA (sx X) z B fk Er σ H1 fun zs H2 => At2 X z B Er σ Q Fn vs zs H2 := by
  obtain ⟨W, cs, l, s, lr, w⟩ := h
  refine ⟨W, cs, l, s, lr, wp_imp (wp_bd.mp w) (fun ds cs1 w1 W1 vs H1 le1 o1 s1 r1 => ?_) fun _ _ h => h⟩
  refine ⟨W1, cs1, l, s1, lr.mono le1 o1, wp_imp (wp_bd.mp w1) (fun ks cs2 w2 W2 zs H2 le2 o2 s2 r2 => ?_) fun _ _ h => h⟩
  exact ⟨W2, cs2, l, ds, ks, s2, lr.mono (le1.trans le2) (o2.trans o1), r1.mono le2, r2, wp_imp w2 (fun d cs3 k W3 v H3 le3 o3 s3 r3 => k W3 v H3 ((le1.trans le2).trans le3) (o3.trans (o2.trans o1)) s3 r3) fun _ _ h => h⟩
theorem klen {ws : List Value} {zs : List V} (rz : Vals zs ws) (h : (backToKw pos (keywordEach kws X.env)).length = ws.length) (hall : (backToKw pos (keywordEach kws X.env)).all (·.1.isSome) = true) (hks : (backToKw pos (keywordEach kws X.env)).filterMap (·.1) = kn) : zs.length = kn.length := by
  rw [rz.length, ← h, ← hks]
  generalize backToKw pos (keywordEach kws X.env) = l at hall
  clear hks h
  induction l with
  | nil => rfl
  | cons a l ih =>
    rw [List.all_cons, Bool.and_eq_true] at hall
    obtain ⟨y, hy⟩ := Option.isSome_iff_exists.mp hall.1
    rw [List.filterMap_cons, hy, List.length_cons, List.length_cons, ih hall.2]
/-- as many keywords as values: a check of the machine -/
def kChk (n : Nat) (Fn : List D → List D → EM D) : List D → List D → EM D := fun ds ks => if ks.length = n then Fn ds ks else no
theorem At2.chk {σ : L2.St} {Q : VK} {vs zs : List V} {H : Hp} {n : Nat} (a : At2 X z B Er σ Q (kChk n Fn) vs zs H) : zs.length = n ∧ At2 X z B Er σ Q Fn vs zs H := by
  obtain ⟨W, cs, l, ds, ks, s, lr, ra, rk, w⟩ := a
  unfold kChk at w
  by_cases c : ks.length = n
  · rw [if_pos c] at w
    exact ⟨by rw [rk.length]; exact c, W, cs, l, ds, ks, s, lr, ra, rk, w⟩
  · rw [if_neg c] at w
    exact w.elim
theorem je_call (c : CalG X.prog X.w X.K X.mg X.base k x kn Fn) (hr : RmG j X.A) (hk : k ≤ j) (hg : Gl X x) (ha : JA X z (e :: es) fa) (hkw : JK X z kws fk)
    (hall : (backToKw pos (keywordEach kws X.env)).all (·.1.isSome) = true := by rfl) (hks : (backToKw pos (keywordEach kws X.env)).filterMap (·.1) = kn := by rfl) (hdb : (x == ("__debug__" : Str)) = false := by decide)
    (he : starEach (e :: es) X.env = (false, eval e X.env) :: starEach es X.env := by rfl) : JE X z (.Call (.Name x p) (e :: es) kws pos) (xCall (kChk kn.length Fn) fa fk) := ⟨fun B Eo tk => ⟨fun pins s σ H Q I h => by
  obtain ⟨g, hF, hm, kp⟩ := c.ex
  refine wpAny_Call_Name_kw (ld_glob I hg hm ?_ hdb)
  refine PySem.W.callWith_A (K := X.K) kp hall (thn ((ha.run B Eo tk).run pos pins s σ H _ I (args2 h)) fun us s1 ⟨vs, H1, I1, r, q⟩ => ?_) he
  refine thn ((hkw.run B Eo tk).run pos pins s1 σ H1 _ I1 q) fun ws s2 ⟨zs, H2, I2, rz, a⟩ => ⟨I2.kIn, ?_⟩
  obtain ⟨l, a⟩ := a.chk
  rw [hks]
  exact run_G hF (hr.mono hk) tk I2 r rz l a⟩⟩
theorem je_call0 (c : CalG X.prog X.w X.K X.mg X.base k x [] Fn) (hr : RmG j X.A) (hk : k ≤ j) (hg : Gl X x) (hdb : (x == ("__debug__" : Str)) = false := by decide) : JE X z (.Call (.Name x p) [] [] pos) (fun _ => Fn [] []) := ⟨fun B Eo tk => ⟨fun pins s σ H Q I h => by
  obtain ⟨g, hF, hm, kp⟩ := c.ex
  refine wpAny_Call_Name_kw (ld_glob I hg hm ?_ hdb)
  refine PySem.W.callWith_K0 (first := []) I.kIn kp ?_
  obtain ⟨W, cs, l, ss, lr, w⟩ := h
  exact run_G (us := []) (ws := []) (vs := []) (zs := []) hF (hr.mono hk) tk I .nil .nil rfl ⟨W, cs, l, [], [], ss, lr, .nil, .nil, w⟩⟩⟩
/-! ### a function off a class -/
theorem je_stat (ho : PE X o (tC (.ref f))) (c : SttG X.prog X.w X.K X.mg X.base k x m kn Fn) (hm : X.mg x = some (.ref f)) (hr : RmG j X.A) (hk : k ≤ j) (ha : JA X z (e :: es) fa) (hkw : JK X z kws fk) {pl : Sem Bool}
    (hall : (backToKw pos (keywordEach kws X.env)).all (·.1.isSome) = true := by rfl) (hks : (backToKw pos (keywordEach kws X.env)).filterMap (·.1) = kn := by rfl)
    (hst : starEach (e :: es) X.env = (false, eval e X.env) :: starEach es X.env := by rfl)
    (ht : eval (.Call (.Attribute o m apos) (e :: es) kws pos) X.env = (do
      let ov ← eval o X.env
      standAt apos.atName
      let (f, first) ← holding [ov] (getMethod ov m pl)
      callWith pos f first (backTo pos (starEach (e :: es) X.env)) (backToKw pos (keywordEach kws X.env))) := by rfl) :
    JE X z (.Call (.Attribute o m apos) (e :: es) kws pos) (xCall (kChk kn.length Fn) fa fk) := ⟨fun B Eo tk => ⟨fun pins s σ H Q I h => by
  obtain ⟨Cl, mc, g, c, hF, hm2⟩ := c.ex
  rw [hm] at hm2
  cases hm2
  refine PySem.W.methodCall_KW (pl := pl) (thn (ho.run pins s σ H (fun v H1 => v = .ref f ∧ H1 = H) I ⟨rfl, rfl⟩) fun u s1 ⟨y, H1, I1, rx, ex, eh⟩ => ?_) ht
  subst ex eh
  obtain rfl : u = Value.ref f := rx
  refine E.getmeth_stat I1 c fun s2 I2 => ?_
  refine PySem.W.callWith_A (K := X.K) c.kp hall (thn ((ha.run B Eo tk).run pos pins s2 σ H1 _ I2 (args2 h)) fun us s3 ⟨vs, H2, I3, r, q⟩ => ?_) hst
  refine thn ((hkw.run B Eo tk).run pos pins s3 σ H2 _ I3 q) fun ws s4 ⟨zs, H3, I4, rz, a⟩ => ⟨I4.kIn, ?_⟩
  obtain ⟨l, a⟩ := a.chk
  rw [hks]
  exact run_G hF (hr.mono hk) tk I4 r rz l a⟩⟩
/-! ### new instances -/
theorem run_mk {Cl : Addr} {pins : List (Addr × Obj)} {σ : L2.St} {H : Hp} {s : Shared} {Q : VK} {us ws : List Value} {vs zs : List V} (M : Mk X.K Cl f) (h : FnI X.prog X.w X.K X.mg X.base k f x kn Fn) (hm : X.mg x = some (.ref Cl)) (hr : RmG (k + 1) X.A) (tk : Takes X (wx (sx X) z B Er)) (I : Inv X pins σ H s) (r : Vals vs us) (rz : Vals zs ws) (l : zs.length = kn.length)
    (a : At2 X z B Er σ Q Fn vs zs H) : wpAny (model X.prog X.w) X.A (call (.ref Cl) us (kn.zip ws)) (EP X pins σ Q) X.xe s := by
  obtain ⟨W, cs, lo, ds, ks, ss, lr, ra, rk, w⟩ := a
  have nx : H (s.heap.objs.size + 1) = none := I.hok.fresh (Nat.le_succ _)
  have nd : H s.heap.objs.size = none := I.hok.fresh (Nat.le_refl _)
  have ne : s.heap.objs.size ≠ s.heap.objs.size + 1 := Nat.ne_of_lt (Nat.lt_succ_self _)
  have I2 := Inv.made (C := Cl) I
  have s1 := ss.new (o := .own (s.heap.objs.size + 1)) nd
  have nx1 : upd H s.heap.objs.size (.own (s.heap.objs.size + 1)) (s.heap.objs.size + 1) = none := by rw [upd_ne (Ne.symm ne)]; exact nx
  have s2 := s1.ownNew (o := .ins Cl s.heap.objs.size []) nx1
  have le1 : Le W { W.new s.heap.objs.size (.own (s.heap.objs.size + 1)) with O := upd W.O (s.heap.objs.size + 1) (.ins Cl s.heap.objs.size []) } := (ss.leNew nd).trans (Le.own _ _)
  have hsp : spI (sx X) x Fn (s.heap.objs.size + 1) vs zs (upd (upd H s.heap.objs.size (.own (s.heap.objs.size + 1))) (s.heap.objs.size + 1) (.ins Cl s.heap.objs.size [])) (fun v H3 => v = .non ∧ Q (.ref (s.heap.objs.size + 1)) H3) (WE (wx (sx X) z B Er) σ) := by
    refine ⟨_, Cl, s.heap.objs.size, W.O, cs, ds, ks, hm, ss.freeO nx, rfl, s2, ra.mono le1, rk.mono le1, wp_imp w (fun d cs' q W' H' le o' s' rd => ⟨rfl, q W' _ H' (le1.trans le) o' s' rd⟩) fun e cs' q W' cls dd H' le o' s' rx => ?_⟩
    exact ⟨W', cs', lo, e, s', lr.mono (le1.trans le) o', rx, q⟩
  refine wpAny_call (make_map (f := f) I.kIn M.makes M.init (beq_iff_eq.mp M.fn) (codeAny_mono (h _ X.stack _ _ (s.heap.objs.size + 1) us vs ws zs _ _ (hr.make Cl us (kn.zip ws)) (I2.env0.make Cl us (kn.zip ws)) r rz l hsp) fun r s' hq' => ?_))
  cases r with
  | error e => exact passAt tk σ pins _ _ e s' I2 hq'
  | ok fl =>
    cases fl with
    | ret u =>
      obtain ⟨v, H', I3, rv, ev, q3⟩ := I2.after hq'
      subst ev
      exact ⟨rv, ⟨V.ref (s.heap.objs.size + 1), H', I3, rfl, q3⟩⟩
    | next => exact False.elim hq'
    | brk => exact False.elim hq'
    | cont => exact False.elim hq'
theorem je_make (c : MkrG X.prog X.w X.K X.mg X.base k x kn Fn) (hr : RmG j X.A) (hk : k + 1 ≤ j) (hg : Gl X x) (ha : JA X z (e :: es) fa) (hkw : JK X z kws fk)
    (hall : (backToKw pos (keywordEach kws X.env)).all (·.1.isSome) = true := by rfl) (hks : (backToKw pos (keywordEach kws X.env)).filterMap (·.1) = kn := by rfl) (hdb : (x == ("__debug__" : Str)) = false := by decide)
    (he : starEach (e :: es) X.env = (false, eval e X.env) :: starEach es X.env := by rfl) : JE X z (.Call (.Name x p) (e :: es) kws pos) (xCall (kChk kn.length Fn) fa fk) := ⟨fun B Eo tk => ⟨fun pins s σ H Q I h => by
  obtain ⟨Cl, f, M, hF, hm⟩ := c.ex
  refine wpAny_Call_Name_kw (ld_glob I hg hm ?_ hdb)
  refine PySem.W.callWith_A (K := X.K) M.kp hall (thn ((ha.run B Eo tk).run pos pins s σ H _ I (args2 h)) fun us s1 ⟨vs, H1, I1, r, q⟩ => ?_) he
  refine thn ((hkw.run B Eo tk).run pos pins s1 σ H1 _ I1 q) fun ws s2 ⟨zs, H2, I2, rz, a⟩ => ⟨I2.kIn, ?_⟩
  obtain ⟨l, a⟩ := a.chk
  rw [hks]
  exact run_mk M hF hm (hr.mono hk) tk I2 r rz l a⟩⟩
/-- C(*y, k = ..): y is asked ahead of the keywords, walked behind them -/
def xCallS (Fn : List D → List D → EM D) (fe : XE) (fk : XA) : XE := fun l => bd (fe l) fun y => bd (fk l) fun ks => bd (rd fun cs => seqOf cs y) fun ds => Fn ds ks
theorem je_makeS (c : MkrG X.prog X.w X.K X.mg X.base k x kn Fn) (hr : RmG j X.A) (hk : k + 1 ≤ j) (hg : Gl X x) (ha : JE X z e fe) (hkw : JK X z kws fk)
    (hall : (backToKw pos (keywordEach kws X.env)).all (·.1.isSome) = true := by rfl) (hks : (backToKw pos (keywordEach kws X.env)).filterMap (·.1) = kn := by rfl) (hdb : (x == ("__debug__" : Str)) = false := by decide)
    (he : starEach [.Starred e q] X.env = [(true, eval e X.env)] := by rfl) : JE X z (.Call (.Name x p) [.Starred e q] kws pos) (xCallS (kChk kn.length Fn) fe fk) := ⟨fun B Eo tk => ⟨fun pins s σ H Q I h => by
  obtain ⟨Cl, f, M, hF, hm⟩ := c.ex
  refine wpAny_Call_Name_kw (ld_glob I hg hm ?_ hdb)
  have h2 : tE (sx X) z B fe Eo σ H fun y H1 => tA (sx X) z B fk Eo σ H1 fun zs H2 => ∃ p vs, y = V.ref p ∧ (SqT X.K H2 p vs ∨ SqL X.K H2 p vs) ∧ At2 X z B Eo σ Q (kChk kn.length Fn) vs zs H2 := by
    obtain ⟨W, cs, l, s, lr, w⟩ := h
    refine ⟨W, cs, l, s, lr, wp_imp (wp_bd.mp w) (fun d cs1 w1 W1 v1 H1 le1 o1 s1 r1 => ?_) fun _ _ h => h⟩
    refine ⟨W1, cs1, l, s1, lr.mono le1 o1, wp_imp (wp_bd.mp w1) (fun ks cs2 w2 W2 zs H2 le2 o2 s2 r2 => ?_) fun _ _ h => h⟩
    obtain ⟨ds, hd, w3⟩ := wp_rd.mp (wp_bd.mp w2)
    obtain ⟨a, us, ea, hs, ra⟩ := seq_ok s2 (r1.mono le2) hd
    exact ⟨a, us, ea, hs.symm, W2, cs2, l, ds, ks, s2, lr.mono (le1.trans le2) (o2.trans o1), ra, r2, wp_imp w3 (fun d cs3 k W3 v H3 le3 o3 s3 r3 => k W3 v H3 ((le1.trans le2).trans le3) (o3.trans (o2.trans o1)) s3 r3) fun _ _ h => h⟩
  refine PySem.W.callWith_A1 (K := X.K) M.kp hall (thn ((ha.run B Eo tk).run pins s σ H _ I h2) fun v s1 ⟨y, H1, I1, ry, q⟩ => ?_) he
  refine thn ((hkw.run B Eo tk).run pos pins s1 σ H1 _ I1 q) fun ws s2 ⟨zs, H2, I2, rz, p0, vs, ey, hx0, a⟩ => ?_
  subst ey
  obtain rfl : v = Value.ref p0 := ry
  obtain ⟨l, a⟩ := a.chk
  refine StX.star_any I2 hx0 fun us s3 I3 rv => ⟨I3.kIn, ?_⟩
  rw [hks]
  exact run_mk M hF hm (hr.mono hk) tk I3 rv rz l a⟩⟩
end
end F

/-! a star parameter; raise; try -/
namespace F
open PySem PySem.Spec PyProof.Rows L2 Evl
section
variable {P : Program} {w : World} {K : PySem.W.Frag} {mg : Str → Option Value} {base : Heap} {f : Addr} {name qual : Str} {params : Arguments} {body : List Stmt} {scope : Scope} {kws : List (Str × V)} {fd : FuncData} {ps kn ms : List Str} {pv : Str}
/-- def f(a, .., *v, k = .., ..): mn the keyword-only parameters that lack, with their defaults; g puts the written and the lacking ones into order -/
theorem shp_star (Fd : FunD K name qual params body scope [] kws f fd) {np : Nat} {mn : List (Str × V)} {mD : List D} (hms : ∀ q ∈ mn, q ∈ kws) {g : {α : Type} → List α → List α → List α} (hg : ∀ {zs mz : List V} {ws mv : List Value}, Vals zs ws → Vals mz mv → Vals (g zs mz) (g ws mv))
    (hgD : ∀ {W : Wd} {zs mz : List V} {es me : List D}, RepA ⟨P, w, K, mg⟩ W zs es → RepA ⟨P, w, K, mg⟩ W mz me → RepA ⟨P, w, K, mg⟩ W (g zs mz) (g es me)) (hmD : ∀ W, RepA ⟨P, w, K, mg⟩ W (mn.map (·.2)) mD)
    (hgl : ∀ {zs mz : List V}, zs.length = kn.length → mz.length = mn.length → (g zs mz).length = ms.length)
    (hb : ∀ (D : Addr) (kV doc pm : Value) (an : Option Addr) (cdv ct : Value) (us rest ws mv : List Value), us.length = ps.length → ws.length = kn.length → mv.length = mn.length → (mn ≠ [] → kV = .ref D) →
      ∃ c, bindArgs (PySem.W.fnOf name qual params body scope .none kV doc pm an cdv ct) ⟨us ++ rest, kn.zip ws⟩ = (newTuple rest >>= c) ∧ ∀ t, KwChain D ((mn.map (·.1)).zip mv) (c t) (ps.zip us ++ (ms.zip (g ws mv) ++ [(pv, t)])))
    (hnp : np ≤ ps.length) : Shp P w K mg base fd (ps ++ (ms ++ [pv])) np kn (arrS (ps.length - np) fun es => some (g es mD)) := by
  intro A outer s H Er W cs ds es bs pre vs zs pu us ks e0 ss rp lp r rz lz ra rz' h A' Exx Q' q
  unfold arrS at h
  dsimp only at h
  split at h
  · rename_i hc
    cases h
    obtain ⟨oc, od, dV, kV, doc, pm, an, cdv, ct, osl, rfl, lk, hcd, hD, hK⟩ := Fd.ex
    rcases hD with ⟨_, rfl⟩ | ⟨e, _⟩
    case inr => exact absurd rfl e
    have lva := ra.length
    have split : vs = vs.take (ps.length - np) ++ vs.drop (ps.length - np) := (List.take_append_drop _ _).symm
    have r0 : Vals ((pre ++ vs.take (ps.length - np)) ++ vs.drop (ps.length - np)) (pu ++ us) := by
      rw [List.append_assoc, List.take_append_drop]
      exact rp.append r
    obtain ⟨u1, u2, eu, r1, r2⟩ := StX.vals_split r0
    have hl : (pre ++ vs.take (ps.length - np)).length = ps.length := by
      rw [List.length_append, List.length_take, lp]
      omega
    have hn : H s.heap.objs.size = Option.none := e0.hok.fresh (Nat.le_refl _)
    have hl1 : u1.length = ps.length := by rw [← r1.length]; exact hl
    have hz : (vs.drop (ps.length - np)).length ≤ sizeLine := by
      rw [List.length_drop]
      exact Nat.le_trans (by omega : vs.length - (ps.length - np) ≤ 1000000) (by decide)
    have hl2 : u2.length ≤ sizeLine := by rw [← r2.length]; exact hz
    obtain ⟨D, mv, hmv, rmv, hkD, hks⟩ : ∃ (D : Addr) (mv : List Value), mv.length = mn.length ∧ Vals (mn.map (·.2)) mv ∧ (mn ≠ [] → kV = .ref D) ∧ ∀ q ∈ (mn.map (·.1)).zip mv, PySem.W.nsIn K D q.1 = some (some q.2) := by
      by_cases hm : mn = []
      · subst hm
        exact ⟨0, [], rfl, .nil, fun z => absurd rfl z, fun q hq => by simp at hq⟩
      · rcases hK with e | ⟨D, e, hq⟩
        · subst e
          cases hmn : mn with
          | nil => exact absurd hmn hm
          | cons q l => exact absurd (hms q (by rw [hmn]; exact List.mem_cons_self)) (by simp)
        · obtain ⟨mv, a, b, c⟩ := kwd_vals (ms := mn) fun q hm => hq q (hms q hm)
          exact ⟨D, mv, a, b, fun _ => e, c⟩
    obtain ⟨c, e1, e2⟩ := hb D kV doc pm an cdv ct u1 u2 ks mv hl1 (by rw [← rz.length, lz]) hmv hkD
    rw [show (⟨pu ++ us, kn.zip ks⟩ : Args) = ⟨u1 ++ u2, kn.zip ks⟩ by rw [eu], e1]
    refine wpAny_bind (wpAny_newTuple ?_ hl2)
    have new : ObjOk P w (upd H s.heap.objs.size (.tup (vs.drop (ps.length - np)))) (s.heap.push ({ cls := .type "tuple", data := .seq u2.toArray } : Obj)) s.heap.objs.size (.tup (vs.drop (ps.length - np))) := ⟨hz, u2, r2, ⟨_, Heap.get?_push_size _ rfl, rfl, _, rfl⟩⟩
    have un := StX.un_laid (fs := frs outer) (s := s) (o := ({ cls := .type "tuple", data := .seq u2.toArray } : Obj)) (u := .tup (vs.drop (ps.length - np))) hn
    have e0' := StX.env0_laid e0 new
    have KX : K.In (s.heap.push ({ cls := .type "tuple", data := .seq u2.toArray } : Obj)) := e0'.mod.kin.keeps fun b o e => (e0'.bs b o e).1
    refine (KwChain.looks (M := model P w) KX hks (e2 (Value.ref s.heap.objs.size))).here ?_
    have le := ss.leNew (o := .tup (vs.drop (ps.length - np))) hn
    have lx : ((pre ++ vs.take (ps.length - np)) ++ (g zs (mn.map (·.2)) ++ [V.ref s.heap.objs.size])).length = (ps ++ (ms ++ [pv])).length := by
      have h1 := hl
      have h2 := hgl (mz := mn.map (·.2)) lz (by simp)
      simp only [List.length_append, List.length_singleton] at h1 ⊢
      omega
    have zq := q _ _ ((pre ++ vs.take (ps.length - np)) ++ (g zs (mn.map (·.2)) ++ [V.ref s.heap.objs.size])) (u1 ++ (g ks mv ++ [Value.ref s.heap.objs.size])) e0' un rfl (fun e s' => StX.cxUp outer s H _ _ Er e s' un (fun b o q => Heap.get?_push_of_some _ q) rfl) (r1.append ((hg rz rmv).append (.cons rfl .nil)))
      lx ⟨W.new s.heap.objs.size _, vs.take (ps.length - np) ++ (g zs (mn.map (·.2)) ++ [V.ref s.heap.objs.size]), by rw [List.append_assoc], lx, le, rfl, ss.new hn,
        ((ra.take _).mono le).append (((hgD rz' (hmD W)).mono le).append (.cons (.tup (st_of upd_same) ((ra.drop _).mono le)) .nil))⟩
    have lg : ms.length = (g ks mv).length := by rw [← (hg rz rmv).length, hgl lz (by simp)]
    rw [List.zip_append hl1.symm, List.zip_append lg] at zq
    exact zq
  · cases h
end
/-! ### raise C(..) -/
/-- an __init__ of an own exception that stores its arguments -/
def spE (K : PySem.W.Frag) (Cl : Addr) (ns : List Str) : Sp := fun vs H Q _ => ∃ a ys, vs = .ref a :: ys ∧ ys.length = ns.length ∧ E.OexB K Cl ∧ (∀ f ∈ ns, NoAttr K Cl f) ∧ H a = some (exo a Cl none) ∧
  ∀ dx, H dx = none → dx ≠ a → Q .non (upd (upd H dx (exd dx (ns.zip ys).reverse)) a (exo a Cl (some dx)))
structure ExrG (P : Program) (w : World) (K : PySem.W.Frag) (mg : Str → Option Value) (base : Heap) (k : Nat) (x : Str) (ns : List Str) : Prop where
  ex : ∃ Cl, E.Exr P w K mg base k x Cl (spE K Cl ns) ∧ ∀ f ∈ ns, NoAttr K Cl f
def mkX (x : Str) (ns : List Str) (ds : List D) : Exn := ⟨x, (ns.zip ds).reverse⟩
def sRaise (x : Str) (ns : List Str) (fa : XA) : XS := fun l cs => onE (fa l) l cs fun ds cs' => if ds.length = ns.length then .go (.ex (mkX x ns ds) l) cs' else .no
theorem RepF.append {Z : Sx} {W : Wd} : ∀ {vs us : List (Str × V)} {ds es : List (Str × D)}, RepF Z W vs ds → RepF Z W us es → RepF Z W (vs ++ us) (ds ++ es)
  | _, _, _, _, .nil, s => s
  | _, _, _, _, .cons r t, s => .cons r (RepF.append t s)
theorem RepF.rev {Z : Sx} {W : Wd} : ∀ {vs : List (Str × V)} {ds : List (Str × D)}, RepF Z W vs ds → RepF Z W vs.reverse ds.reverse
  | _, _, .nil => .nil
  | _, _, .cons r t => by
    rw [List.reverse_cons, List.reverse_cons]
    exact (RepF.rev t).append (.cons r .nil)
theorem RepA.zip {Z : Sx} {W : Wd} : ∀ (ns : List Str) {vs : List V} {ds : List D}, RepA Z W vs ds → RepF Z W (ns.zip vs) (ns.zip ds)
  | [], _, _, _ => by simp only [List.zip_nil_left]; exact .nil
  | _ :: _, _, _, .nil => .nil
  | n :: ns, _, _, .cons r t => .cons r (RepA.zip ns t)
theorem js_raise {X : Cx} {z : ZT} {k j : Nat} {x : Str} {ns : List Str} {p pos pos2 : Pos} {e : Expr} {es : List Expr} {fa : XA} (c : ExrG X.prog X.w X.K X.mg X.base k x ns) (hr : RmG j X.A) (hk : k + 1 ≤ j) (hc : X.calm = true) (hg : Gl X x) (ha : JA X z (e :: es) fa) (hn : ns.length ≤ 1000 := by decide)
    (hdb : (x == ("__debug__" : Str)) = false := by decide) (he : starEach (e :: es) X.env = (false, eval e X.env) :: starEach es X.env := by rfl) (hpl : (backTo pos (starEach es X.env)).any (·.1) = false := by rfl) :
    JS X z (.Raise (some (.Call (.Name x p) (e :: es) [] pos)) none pos2) (sRaise x ns fa) := by
  obtain ⟨Cl, c, hno⟩ := c.ex
  refine ⟨fun B Eo tk => ps_imp (E.ps_rx c hr.room hk hc tk hg (ha.run B Eo tk) hdb he hpl) fun D σ H ⟨W, cs, l, s, lr, w⟩ => ?_⟩
  refine ⟨W, cs, l, s, lr, wp_imp (wpS_onE.mp w) (fun ds cs1 w1 W1 vs H1 le1 o1 s1 r1 => ?_) fun _ _ h => h⟩
  split at w1
  · rename_i hl
    have lv := r1.length
    refine ⟨by omega, fun a ha => ?_⟩
    obtain ⟨_, _, _, T, _⟩ := c.ex
    refine ⟨a, vs ++ [], rfl, by rw [List.append_nil]; omega, T, hno, upd_same, fun dx hdx hne => ⟨rfl, dx, (ns.zip (vs ++ [])).reverse, upd_same, ?_, ?_, ?_⟩⟩
    · rw [upd_ne hne, upd_same]
    · rw [upd_ne hne] at hdx; exact hdx
    · have hdx1 : H1 dx = none := by rw [upd_ne hne] at hdx; exact hdx
      rw [List.append_nil]
      have eH : upd (del (upd (upd (upd H1 a (exo a Cl none)) dx (exd dx (ns.zip vs).reverse)) a (exo a Cl (some dx))) a) dx (.xd (ns.zip vs).reverse) = upd H1 dx (.xd (ns.zip vs).reverse) := by
        funext b
        by_cases hb : b = dx
        · rw [hb, upd_same, upd_same]
        · rw [upd_ne hb, upd_ne hb]
          by_cases hba : b = a
          · rw [hba, del_same, ha]
          · rw [del_ne hba, upd_ne hba, upd_ne hb, upd_ne hba]
      rw [eH]
      have le := s1.leNew (o := .xd (ns.zip vs).reverse) hdx1
      exact ⟨W1.new dx _, cs1, l, mkX x ns ds, s1.new hdx1, (lr.mono le1 o1).mono le rfl, ⟨Cl, dx, _, c.hm, rfl, rfl, upd_same, (RepA.zip ns (r1.mono le)).rev⟩, w1⟩
  · exact w1.elim
/-! ### try -/
structure Te where
  exc : List (Str × List Str) := []
  exm : List (Str × Tag × Bool) := []
structure TeOk (Z : Sx) (T : Te) : Prop where
  cls : ∀ q ∈ T.exc, ∃ Cl, Z.mg q.1 = some (.ref Cl) ∧ XfC Z.K Cl ∧ ExcC Z.K Cl ∧ ∀ f ∈ q.2, NoAttr Z.K Cl f
  exm : ∀ q ∈ T.exm, ∃ Cl u, Z.mg q.1 = some (.ref Cl) ∧ tagV Z q.2.1 = some u ∧ PySem.W.exmOne Z.K (.ref Cl) u = some q.2.2
def Te.m (T : Te) (x : Str) (t : Tag) : Option Bool := (T.exm.find? fun q => decide (q.1 = x) && decide (q.2.1 = t)).map (·.2.2)
theorem TeOk.m_ok {Z : Sx} {T : Te} (t : TeOk Z T) {x : Str} {y : Tag} {b : Bool} (h : T.m x y = some b) : ∃ Cl u, Z.mg x = some (.ref Cl) ∧ tagV Z y = some u ∧ PySem.W.exmOne Z.K (.ref Cl) u = some b := by
  unfold Te.m at h
  cases q : T.exm.find? fun q => decide (q.1 = x) && decide (q.2.1 = y) with
  | none => rw [q] at h; cases h
  | some r =>
    rw [q] at h
    cases h
    have hr := List.find?_some q
    obtain ⟨h2, h3⟩ := Bool.and_eq_true_iff.mp hr
    obtain ⟨Cl, u, h4, h5, h6⟩ := t.exm r (List.mem_of_find?_eq_some q)
    rw [of_decide_eq_true h2] at h4
    rw [of_decide_eq_true h3] at h5
    exact ⟨Cl, u, h4, h5, h6⟩
def isExn : Sl → Bool
  | .exn _ => true
  | _ => false
/-- behind a suite: its name goes -/
def endX (i : Nat) : SO → SO
  | .go (.nx l) cs => if (l.set i .emp).any isExn = true then .no else .go (.nx (l.set i .emp)) cs
  | .go (.bk l) cs => if (l.set i .emp).any isExn = true then .no else .go (.bk (l.set i .emp)) cs
  | .go (.ct l) cs => if (l.set i .emp).any isExn = true then .no else .go (.ct (l.set i .emp)) cs
  | .go (.ret d) cs => .go (.ret d) cs
  | _ => .no
abbrev Clz := Tag × Nat × XS
def hand (T : Te) (x : Exn) (l : Loc) (cs : Cells) : List Clz → SO
  | [] => .go (.ex x l) cs
  | (t, i, su) :: r => match T.m x.c t with
    | some true => if i < l.length then endX i (su (l.set i (.exn x)) cs) else .no
    | some false => hand T x l cs r
    | none => .no
def sTry (T : Te) (b : XS) (cl : List Clz) : XS := fun l cs => match b l cs with
  | .go (.ex x l') cs' => hand T x l' cs' cl
  | r => r
inductive JH (X : Cx) (z : ZT) : List ExceptHandler → List Clz → Prop
  | nil : JH X z [] []
  | cons {x n : Str} {t : Tag} {c : Value} {i : Nat} {su : XS} {b₀ : Stmt} {suite : List Stmt} {np pos' : Pos} {hds : List ExceptHandler} {l : List Clz} (ht : tagV (sx X) t = some c) (hc : Names X x c) (hi : X.N[i]? = some n) (hln : X.env.kindOf n = some .local)
      (hsu : ∀ (a : Addr) (oe : Obj) (cls : Value) (d : Option Addr) (pn : List (Addr × Obj)), Zc cls d oe → (∃ vs, oe.data = .fields vs) → JSs (X.suite a ((a, oe) :: pn)) { z with e := some (a, cls, d) } (b₀ :: suite) su) (r : JH X z hds l) :
      JH X z (.ExceptHandler (some (.Name x np)) (some n) (b₀ :: suite) pos' :: hds) ((t, i, su) :: l)
section
variable {Z : Sx} {z : ZT} {B W : Wd} {l : Loc} {σ : L2.St}
theorem SlOk.base {B' : Wd} (h : B'.O = B.O) : ∀ {s : Sl} {v : Option (Option V)}, SlOk Z z B W s v → SlOk Z z B' W s v
  | .emp, _, _ => True.intro
  | .val _, _, q => q
  | .own _, _, ⟨a, o, h1, h2, ⟨h3, h4⟩, r⟩ => ⟨a, o, h1, h2, ⟨by rw [h]; exact h3, h4⟩, r⟩
  | .me _, _, q => q
  | .exn _, _, q => q
theorem LR.rebase {B' : Wd} (h : LR Z z B W l σ) (le : Le B' W) (ho : B'.O = B.O) : LR Z z B' W l σ := ⟨h.len, fun i s e => (h.sl i s e).base ho, h.dj, le, by rw [ho]; exact h.base.2⟩
/-- no exception is held any more -/
theorem LR.noX {z' : ZT} (h : LR Z z' B W l σ) (hm : z'.me = z.me) (hx : l.any isExn = false) : LR Z z B W l σ := ⟨h.len, fun i s e => by
  have q := h.sl i s e
  cases s with
  | emp => exact True.intro
  | val d => exact q
  | own c => obtain ⟨a, o, h1, h2, ⟨h3, h4⟩, r⟩ := q; exact ⟨a, o, h1, h2, ⟨h3, fun y => by rw [← hm]; exact h4 y⟩, r⟩
  | me d => obtain ⟨a, h1, h2, r⟩ := q; exact ⟨a, h1, by rw [← hm]; exact h2, r⟩
  | exn x =>
    have := List.any_eq_false.mp hx _ (List.mem_of_getElem? e)
    exact absurd rfl this, h.dj, h.base⟩
/-- a caught exception in slot i -/
theorem LR.caught {i : Nat} {a : Addr} {cls : Value} {d : Option Addr} {x : Exn} (h : LR Z z B W l σ) (hz : z.e = none) (r : RX Z W cls d x) : LR Z { z with e := some (a, cls, d) } B W (l.set i (.exn x)) (σ.set i (some (.ref a))) := by
  refine ⟨by rw [List.length_set, List.length_set]; exact h.len, fun j s e => ?_, fun j k c c' b h1 h2 h3 h4 => ?_, h.base⟩
  · by_cases hj : j = i
    · subst hj
      have hlt : j < l.length := by
        have := (List.getElem?_eq_some_iff.mp e).1
        rw [List.length_set] at this
        exact this
      rw [List.getElem?_set_self hlt] at e
      cases e
      exact ⟨a, cls, d, rfl, by rw [List.getElem?_set_self (by rw [← h.len]; exact hlt)], r⟩
    · rw [List.getElem?_set_ne (Ne.symm hj)] at e ⊢
      have q := h.sl j s e
      cases s with
      | emp => exact True.intro
      | val d => exact q
      | own c => exact q
      | me d => exact q
      | exn y =>
        obtain ⟨_, _, _, h1, _⟩ := q
        rw [hz] at h1
        cases h1
  · have ne : ∀ {m : Nat} {cc : C}, (l.set i (.exn x))[m]? = some (.own cc) → m ≠ i := fun {m cc} e z => by
      subst z
      have hlt : m < l.length := by
        have := (List.getElem?_eq_some_iff.mp e).1
        rw [List.length_set] at this
        exact this
      rw [List.getElem?_set_self hlt] at e
      cases e
    have n1 := ne h1
    have n2 := ne h2
    rw [List.getElem?_set_ne (Ne.symm n1)] at h1 h3
    rw [List.getElem?_set_ne (Ne.symm n2)] at h2 h4
    exact h.dj j k c c' b h1 h2 h3 h4
end
section
variable {X : Cx} {z : ZT} {body : List Stmt} {h₀ : ExceptHandler} {hds : List ExceptHandler} {cl : List Clz} {pos : Pos} {b : XS} {T : Te}
/-- the clauses as the walk has them -/
def clsOf (Z : Sx) (z : ZT) (B : Wd) : List Clz → List Value → List E.Cl
  | (t, i, su) :: r, c :: cs => (c, i, fun a cls d => tS Z { z with e := some (a, cls, d) } B su fun _ _ _ => False) :: clsOf Z z B r cs
  | _, _ => []
inductive JH' (X : Cx) (z : ZT) : List ExceptHandler → List Clz → List Value → Prop
  | nil : JH' X z [] [] []
  | cons {x n : Str} {t : Tag} {c : Value} {i : Nat} {su : XS} {b₀ : Stmt} {suite : List Stmt} {np pos' : Pos} {hds : List ExceptHandler} {l : List Clz} {cs : List Value} (ht : tagV (sx X) t = some c) (hc : Names X x c) (hi : X.N[i]? = some n) (hln : X.env.kindOf n = some .local)
      (hsu : ∀ (a : Addr) (oe : Obj) (cls : Value) (d : Option Addr) (pn : List (Addr × Obj)), Zc cls d oe → (∃ vs, oe.data = .fields vs) → JSs (X.suite a ((a, oe) :: pn)) { z with e := some (a, cls, d) } (b₀ :: suite) su) (r : JH' X z hds l cs) :
      JH' X z (.ExceptHandler (some (.Name x np)) (some n) (b₀ :: suite) pos' :: hds) ((t, i, su) :: l) (c :: cs)
theorem JH.vals (h : JH X z hds cl) : ∃ cs, JH' X z hds cl cs := by
  induction h with
  | nil => exact ⟨[], .nil⟩
  | cons ht hc hi hln hsu r ih =>
    obtain ⟨cs, q⟩ := ih
    exact ⟨_ :: cs, .cons ht hc hi hln hsu q⟩
theorem JH'.toH (B : Wd) {cs : List Value} (h : JH' X z hds cl cs) : E.HdsA X hds (clsOf (sx X) z B cl cs) := by
  induction h with
  | nil => exact .nil
  | cons ht hc hi hln hsu r ih => exact .cons hc hi hln (fun a oe cls d pn z1 z2 => (hsu a oe cls d pn z1 z2).run B _ takes_no) ih
/-- the rest of the clauses serve an exception -/
theorem hand_ok (t : TeOk (sx X) T) (hz : z.e = none) {B W W1 : Wd} {Eo : Exn → Loc → Cells → Prop} {D : Ends} {σ : L2.St} {H : Hp} {cls : Value} {d : Option Addr} {x : Exn} {l : Loc} {cs1 : Cells} (leW : Le W W1) (s1 : S (sx X) W1 cs1 H) (lr1 : LR (sx X) z B W1 l σ) (rx : RX (sx X) W1 cls d x) :
    ∀ {hds : List ExceptHandler} {cl : List Clz} {cs : List Value}, JH' X z hds cl cs → wpS (hand T x l cs1 cl) (post (sx X) z B W Eo D) → E.wManyA X.K (wx (sx X) z B Eo) D (clsOf (sx X) z B cl cs) cls d σ H := by
  intro hds cl cs h
  induction h with
  | nil => exact fun w => ⟨W1, cs1, l, x, s1, lr1, rx, w⟩
  | @cons x' n tg c i su b₀ suite np pos' hds l' cs ht hc hi hln hsu r ih =>
    intro w
    have w' : wpS (match T.m x.c tg with
      | some true => if i < l.length then endX i (su (l.set i (.exn x)) cs1) else .no
      | some false => hand T x l cs1 l'
      | none => .no) (post (sx X) z B W Eo D) := w
    cases q : T.m x.c tg with
    | none => rw [q] at w'; exact w'.elim
    | some bb =>
      rw [q] at w'
      obtain ⟨Cl, u, m1, m2, m3⟩ := t.m_ok q
      obtain ⟨Cl', dx, fs, e1, e2, e3, e4, e5⟩ := id rx
      rw [m1] at e1
      cases e1
      rw [ht] at m2
      cases m2
      subst e2
      refine ⟨bb, m3, fun hb => ?_, fun hb => ?_⟩
      · subst hb
        intro a ha
        dsimp only at w'
        by_cases hil : i < l.length
        · rw [if_pos hil] at w'
          refine ⟨W1, cs1, l.set i (.exn x), s1, lr1.caught hz rx, ?_⟩
          cases qs : su (l.set i (.exn x)) cs1 with
          | no => rw [qs] at w'; exact w'.elim
          | go fl cs2 =>
            rw [qs] at w'
            have back : ∀ {l2 : Loc} {W2 : Wd} {σ2 : L2.St}, (l2.set i .emp).any isExn = false → LR (sx X) { z with e := some (a, .ref Cl, d) } B W2 l2 σ2 → LR (sx X) z B W2 (l2.set i .emp) (σ2.set i none) := fun {l2 W2 σ2} hx lr2 => LR.noX (z := z) lr2.emp1 rfl hx
            cases fl with
            | nx l2 =>
              have w2 : wpS (if (l2.set i .emp).any isExn = true then SO.no else .go (.nx (l2.set i .emp)) cs2) (post (sx X) z B W Eo D) := w'
              split at w2
              · exact w2.elim
              · rename_i hx
                exact fun W2 σ2 H2 le2 s2 lr2 => w2 W2 _ H2 (leW.trans le2) s2 (back (by simpa using hx) lr2)
            | bk l2 =>
              have w2 : wpS (if (l2.set i .emp).any isExn = true then SO.no else .go (.bk (l2.set i .emp)) cs2) (post (sx X) z B W Eo D) := w'
              split at w2
              · exact w2.elim
              · rename_i hx
                exact fun W2 σ2 H2 le2 s2 lr2 => w2 W2 _ H2 (leW.trans le2) s2 (back (by simpa using hx) lr2)
            | ct l2 =>
              have w2 : wpS (if (l2.set i .emp).any isExn = true then SO.no else .go (.ct (l2.set i .emp)) cs2) (post (sx X) z B W Eo D) := w'
              split at w2
              · exact w2.elim
              · rename_i hx
                exact fun W2 σ2 H2 le2 s2 lr2 => w2 W2 _ H2 (leW.trans le2) s2 (back (by simpa using hx) lr2)
            | ret d2 => exact fun W2 v2 H2 le2 s2 o2 r2 => w' W2 v2 H2 (leW.trans le2) s2 o2 r2
            | ex x2 l2 => exact w'.elim
        · rw [if_neg hil] at w'
          exact w'.elim
      · subst hb
        exact ih w'
theorem js_try (t : TeOk (sx X) T) (hz : z.e = none) (hs : X.stack = X.env :: X.outer) (hf : X.env.frame = some X.env.locals) (hN : X.N.Nodup)
    (hb : ∀ (pn : List (Addr × Obj)) (xe : Value → Shared → Prop), PassesOwn (model X.prog X.w) X.A X.env xe → JSs (X.tr pn xe) z body b) (hh : JH X z (h₀ :: hds) cl) : JS X z (.Try body (h₀ :: hds) [] [] pos) (sTry T b cl) := by
  obtain ⟨cv, hv⟩ := hh.vals
  refine ⟨fun B Eo tk => ?_⟩
  have base := fun (B' : Wd) (hB : B'.O = B.O) => E.ps_try_manyA (pos := pos) (tb := fun Wx => fun D σ H => ∃ Ei, (∀ cls d σ H, wx (sx X) z B' Ei cls d σ H → Wx cls d σ H) ∧ tS (sx X) z B' b Ei D σ H) hs hf hN tk
    (fun Wx pn xe tk' po => ⟨fun pins s σ H D I ⟨Ei, himp, h⟩ => ((hb pn xe po).run B' Ei (tk'.imp himp)).run pins s σ H D I h⟩) (hv.toH B)
  refine ⟨fun pins s σ H D I h => ?_⟩
  obtain ⟨W, cs, l, ss, lr, w⟩ := h
  refine (base { W with O := B.O } rfl).run pins s σ H D I ?_
  refine ⟨fun x l' cs' => wpS (hand T x l' cs' cl) (post (sx X) z B W Eo D), fun cls d σ1 H1 ⟨W1, cs1, l1, x1, s1, lr1, rx1, e1⟩ => ?_, W, cs, l, ss, lr.rebase ⟨Ex.refl _, fun _ _ h => h⟩ rfl, ?_⟩
  · have leW : Le W W1 := ⟨lr1.base.1.g, lr1.base.1.i⟩
    exact hand_ok t hz leW s1 (lr1.rebase (lr.base.1.trans leW) rfl) rx1 hv e1
  · unfold sTry at w
    cases q : b l cs with
    | no => rw [q] at w; exact w.elim
    | go fl cs' =>
      rw [q] at w
      have up : ∀ {W2 : Wd} {l2 : Loc} {σ2 : L2.St}, Le W W2 → LR (sx X) z { W with O := B.O } W2 l2 σ2 → LR (sx X) z B W2 l2 σ2 := fun {W2 l2 σ2} le lr2 => lr2.rebase (lr.base.1.trans le) rfl
      cases fl with
      | nx l2 => exact fun W2 σ2 H2 le2 s2 lr2 => w W2 σ2 H2 le2 s2 (up le2 lr2)
      | bk l2 => exact fun W2 σ2 H2 le2 s2 lr2 => w W2 σ2 H2 le2 s2 (up le2 lr2)
      | ct l2 => exact fun W2 σ2 H2 le2 s2 lr2 => w W2 σ2 H2 le2 s2 (up le2 lr2)
      | ret d2 => exact fun W2 v2 H2 le2 s2 o2 r2 => w W2 v2 H2 le2 s2 o2 r2
      | ex x2 l2 => exact w
end
end F

/-! what a suite asks of its exception; own ==; the entry -/
namespace F
open PySem PySem.Spec PyProof.Rows L2 Evl
def Te.fld (T : Te) (c f : Str) : Bool := T.exc.any fun q => decide (q.1 = c) && q.2.any fun g => decide (g = f)
def Te.has (T : Te) (c : Str) : Bool := T.exc.any fun q => decide (q.1 = c)
theorem TeOk.fld_ok {Z : Sx} {T : Te} {c f : Str} {Cl : Addr} (t : TeOk Z T) (h : T.fld c f = true) (hm : Z.mg c = some (.ref Cl)) : XfC Z.K Cl ∧ NoAttr Z.K Cl f := by
  obtain ⟨q, hq, h1⟩ := List.any_eq_true.mp h
  obtain ⟨h2, h3⟩ := Bool.and_eq_true_iff.mp h1
  obtain ⟨g, hg, h4⟩ := List.any_eq_true.mp h3
  obtain ⟨Cl', m, k, _, n⟩ := t.cls q hq
  rw [of_decide_eq_true h2, hm] at m
  cases m
  rw [← of_decide_eq_true h4]
  exact ⟨k, n g hg⟩
theorem TeOk.has_ok {Z : Sx} {T : Te} {c : Str} {Cl : Addr} (t : TeOk Z T) (h : T.has c = true) (hm : Z.mg c = some (.ref Cl)) : ExcC Z.K Cl := by
  obtain ⟨q, hq, h1⟩ := List.any_eq_true.mp h
  obtain ⟨Cl', m, _, k, _⟩ := t.cls q hq
  rw [of_decide_eq_true h1, hm] at m
  cases m
  exact k
/-- e.f, e the suite's exception, of the class c -/
def xXf (T : Te) (c : Str) (i : Nat) (f : Str) : XE := fun l => match l[i]? with
  | some (.exn x) => if (decide (x.c = c) && T.fld c f) = true then rd fun _ => x.fs.lookup f else no
  | _ => no
def xIsX (T : Te) (Tb : Tb) (i : Nat) (t : Tag) : XE := fun l => match l[i]? with
  | some (.exn x) => if T.has x.c = true then rd fun _ => (Tb.is (.c x.c) t).map .bl else no
  | _ => no
section
variable {X : Cx} {z : ZT} {a : Addr} {oe : Obj} {cls : Value} {d : Option Addr} {pn : List (Addr × Obj)} {e b : Expr} {i : Nat} {f c : Str} {pos p : Pos} {T : Te} {T2 : Tb}
theorem je_xf (t : TeOk (sx X) T) (hz : Zc cls d oe) (hf : ∃ vs, oe.data = .fields vs) {Cl : Addr} (hc : X.mg c = some (.ref Cl)) (ht : T.fld c f = true) (hv : PE (X.suite a ((a, oe) :: pn)) e (tVar i)) (hb : attributeBase e f X.env (eval e X.env) = eval e X.env := by rfl) :
    JE (X.suite a ((a, oe) :: pn)) { z with e := some (a, cls, d) } (.Attribute e f pos) (xXf T c i f) := by
  obtain ⟨k1, k2⟩ := t.fld_ok ht hc
  refine ⟨fun B Eo tk => pe_imp (pe_xf k1 k2 hz hf hv hb) fun σ H Q ⟨W, cs, l, s, lr, w⟩ => ?_⟩
  unfold xXf at w
  split at w
  · rename_i x hl
    split at w
    · rename_i hcc
      obtain ⟨e1, _⟩ := Bool.and_eq_true_iff.mp hcc
      obtain ⟨r, hr, k⟩ := wp_rd.mp w
      obtain ⟨a', cls', d', hz', hs, Cl', dx, fs, m, e2, e3, e4, e5⟩ := lr.sl i _ hl
      cases hz'
      have m' : X.mg x.c = some (.ref Cl') := m
      rw [of_decide_eq_true e1, hc] at m'
      cases m'
      subst e2 e3
      obtain ⟨v, hv, rv⟩ := e5.lookup f hr
      exact ⟨_, hs, rfl, rfl, dx, fs, v, rfl, s.g _ _ e4, hv, k W v H (Le.refl _) rfl s rv⟩
    · exact w.elim
  · exact w.elim
theorem je_isX {tg : Tag} {cv : V} {u : Value} (t : TeOk (sx X) T) (t2 : TbOk (sx X) T2) (hz : Zc cls d oe) (hf : ∃ vs, oe.data = .fields vs) (hg : Gl X "isinstance") (hm : X.mg "isinstance" = none) (hv : PE (X.suite a ((a, oe) :: pn)) e (tVar i)) (hb : PE (X.suite a ((a, oe) :: pn)) b (tC cv)) (hu : tagV (sx X) tg = some u) (hr : ∀ y, RelV cv y → y = u)
    (hs : starEach [e, b] X.env = [(false, eval e X.env), (false, eval b X.env)] := by rfl) (hs2 : starEach [b] X.env = [(false, eval b X.env)] := by rfl) :
    JE (X.suite a ((a, oe) :: pn)) { z with e := some (a, cls, d) } (.Call (.Name "isinstance" p) [e, b] [] pos) (xIsX T T2 i tg) := by
  refine ⟨fun B Eo tk => pe_imp (pe_callB (X := X.suite a ((a, oe) :: pn)) (E.call_isEd hz hf) hg hm (by decide +kernel) (pa_cons hv (pa_cons hb pa_nil (by rw [show (X.suite a ((a, oe) :: pn)).env = X.env from rfl, hs2]; rfl)) (by rw [show (X.suite a ((a, oe) :: pn)).env = X.env from rfl, hs, hs2])) (by decide) (by decide) (by rw [show (X.suite a ((a, oe) :: pn)).env = X.env from rfl, hs, hs2]) (by rw [show (X.suite a ((a, oe) :: pn)).env = X.env from rfl, hs2]; rfl)) fun σ H Q ⟨W, cs, l, s, lr, w⟩ => ?_⟩
  unfold xIsX at w
  split at w
  · rename_i x hl
    split at w
    · rename_i hh
      obtain ⟨r, hr', k⟩ := wp_rd.mp w
      cases q : T2.is (.c x.c) tg with
      | none => rw [q] at hr'; cases hr'
      | some b' =>
        rw [q] at hr'
        cases hr'
        obtain ⟨a', cls', d', hz', hs', Cl', dx, fs, m, e2, e3, e4, e5⟩ := lr.sl i _ hl
        cases hz'
        subst e2 e3
        obtain ⟨t1, u1, h1, h2, h3⟩ := t2.is_ok q
        have h1' : X.mg x.c = some t1 := h1
        rw [show X.mg x.c = some (.ref Cl') from m] at h1'
        cases h1'
        rw [hu] at h2
        cases h2
        exact ⟨_, hs', ⟨cv, u, b', Cl', dx, fs, rfl, rfl, rfl, s.g _ _ e4, t.has_ok hh m, hr, h3, k W _ H (Le.refl _) rfl s (.bl b')⟩⟩
    · exact w.elim
  · exact w.elim
end
/-! ### own == -/
abbrev EqT := List (Str × (List D → List D → EM D))
/-- whose == is asked first: true: the left one's -/
abbrev OrT := List (Str × Tag × Bool)
def OrT.at_ (o : OrT) (c : Str) (t : Tag) : Option Bool := (o.find? fun q => decide (q.1 = c) && decide (q.2.1 = t)).map (·.2.2)
def EqT.at_ (e : EqT) (c : Str) : Option (List D → List D → EM D) := (e.find? fun q => decide (q.1 = c)).map (·.2)
def negB (neg : Bool) (m : EM D) : EM D := bd (nox m) fun d => bd (asB d) fun b => rt (.bl (b != neg))
def eqDyn (eqs : EqT) (ord : OrT) (neg : Bool) (x y : D) : EM D := fun cs => match insOf cs x with
  | some (c, _) => match tagOf cs y with
    | some t => match ord.at_ c t with
      | some true => match eqs.at_ c with
        | some Fe => negB neg (Fe [x, y] []) cs
        | none => .no
      | some false => match t with
        | .c c' => match eqs.at_ c' with
          | some Fe => negB neg (Fe [y, x] []) cs
          | none => .no
        | _ => .no
      | none => .no
    | none => .no
  | none => rd (fun cs => (eqB cs x y).map fun b => .bl (b != neg)) cs
def xEq (eqs : EqT) (ord : OrT) (neg : Bool) (fa fb : XE) : XE := fun l => bd (fa l) fun x => bd (fb l) fun y => nox (eqDyn eqs ord neg x y)
def tagHas (T : Tb) : Tag → Prop
  | .c c => T.has c = true
  | .b _ => True
structure EqOk (P : Program) (w : World) (K : PySem.W.Frag) (mg : Str → Option Value) (base : Heap) (k : Nat) (T : Tb) (eqs : EqT) (ord : OrT) : Prop where
  eq : ∀ q ∈ eqs, ∃ Cl g, mg q.1 = some (.ref Cl) ∧ E.OwnEq K Cl g ∧ FnG P w K mg base k g [] q.2
  ord : ∀ q ∈ ord, ∃ Cl t, mg q.1 = some (.ref Cl) ∧ tagV ⟨P, w, K, mg⟩ q.2.1 = some t ∧ tagHas T q.2.1 ∧ (if q.2.2 = true then PySem.W.notFirst K Cl t = true else t ≠ .ref Cl ∧ PySem.W.subIn K t (.ref Cl) = some true)
section
variable {X : Cx} {k j : Nat} {T : Tb} {eqs : EqT} {ord : OrT}
theorem RmG.in1 {k : Nat} {A : Around} (r : RmG (k + 1) A) : RmG k A.in1 := ⟨r.room.in1, r.gd⟩
theorem noPass {E' : XK} (h : ∀ c d H, E' c d H → False) : Passes (L2.CX X.prog X.w) X E' := fun pins σ H s e s' I ⟨_, _, _, _, _, _, _, _, _, _, _, _, he⟩ => (h _ _ _ he).elim
/-- the callee's answer, a truth -/
theorem run_eq {A : Around} {pins : List (Addr × Obj)} {σ : L2.St} {H : Hp} {s : Shared} {g : Addr} {Fe : List D → List D → EM D} {us : List Value} {vs : List V} {W : Wd} {cs : Cells} {ds : List D} {neg : Bool} {Q : VK} (h : FnG X.prog X.w X.K X.mg X.base k g [] Fe) (hr : RmG k A) (e0 : Env0 X.prog X.w X.K X.mg X.base A X.stack s H) (I : Inv X pins σ H s) (r : Vals vs us)
    (ss : S (sx X) W cs H) (ra : RepA (sx X) W vs ds) (w : wp (negB neg (Fe ds [])) cs (okP (sx X) W Q) fun _ _ => False) :
    wpAny (model X.prog X.w) A (call (.ref g) us) (fun u s' => ∃ b, u = .bool b ∧ ∃ H', Inv X pins σ H' s' ∧ Q (.bl (b != neg)) H') X.xe s := by
  have hsp : spF (sx X) Fe vs [] H (fun v H' => ∃ b, v = .bl b ∧ Q (.bl (b != neg)) H') (fun _ _ _ => False) := by
    refine ⟨W, cs, ds, [], ss, ra, .nil, wp_imp (wp_nox (wp_bd.mp w)) (fun d cs' w1 W' v H' le o s' rv => ?_) (E := fun _ _ => False) fun _ _ h => h.elim⟩
    obtain ⟨b, rfl, w2⟩ := asB_ok (wp_bd.mp w1)
    cases rep_bl rv
    exact ⟨b, rfl, w2 W' _ H' le o s' (.bl _)⟩
  refine wpAny_call (codeAny_mono (h A X.stack s H us vs [] [] _ _ hr e0 r .nil rfl hsp) fun rr s' hq => ?_)
  cases rr with
  | error e => exact noPass (fun _ _ _ h => h) pins σ H s e s' I hq
  | ok fl =>
    cases fl with
    | ret u =>
      obtain ⟨v, H', I', rv, b, eb, q⟩ := I.after hq
      subst eb
      exact ⟨b, rv, H', I', q⟩
    | next => exact False.elim hq
    | brk => exact False.elim hq
    | cont => exact False.elim hq
theorem EqOk.ord_ok {P : Program} {w : World} {K : PySem.W.Frag} {mg : Str → Option Value} {base : Heap} (o : EqOk P w K mg base k T eqs ord) {c : Str} {t : Tag} {b : Bool} {Cl : Addr} (h : ord.at_ c t = some b) (hm : mg c = some (.ref Cl)) :
    ∃ u, tagV ⟨P, w, K, mg⟩ t = some u ∧ tagHas T t ∧ (if b = true then PySem.W.notFirst K Cl u = true else u ≠ .ref Cl ∧ PySem.W.subIn K u (.ref Cl) = some true) := by
  unfold OrT.at_ at h
  cases q : ord.find? fun q => decide (q.1 = c) && decide (q.2.1 = t) with
  | none => rw [q] at h; cases h
  | some r =>
    rw [q] at h
    cases h
    have hr := List.find?_some q
    obtain ⟨h2, h3⟩ := Bool.and_eq_true_iff.mp hr
    obtain ⟨Cl', u, h4, h5, h6, h7⟩ := o.ord r (List.mem_of_find?_eq_some q)
    rw [of_decide_eq_true h2, hm] at h4
    cases h4
    rw [of_decide_eq_true h3] at h5 h6
    exact ⟨u, h5, h6, h7⟩
theorem EqOk.eq_ok {P : Program} {w : World} {K : PySem.W.Frag} {mg : Str → Option Value} {base : Heap} (o : EqOk P w K mg base k T eqs ord) {c : Str} {Fe : List D → List D → EM D} {Cl : Addr} (h : eqs.at_ c = some Fe) (hm : mg c = some (.ref Cl)) : ∃ g, E.OwnEq K Cl g ∧ FnG P w K mg base k g [] Fe := by
  unfold EqT.at_ at h
  cases q : eqs.find? fun q => decide (q.1 = c) with
  | none => rw [q] at h; cases h
  | some r =>
    rw [q] at h
    cases h
    have hr := List.find?_some q
    obtain ⟨Cl', g, h4, h5, h6⟩ := o.eq r (List.mem_of_find?_eq_some q)
    rw [of_decide_eq_true hr, hm] at h4
    cases h4
    exact ⟨g, h5, h6⟩
def rEqO (Z : Sx) (eqs : EqT) (ord : OrT) (neg : Bool) : R2 := fun x y H Q => ∃ W cs d e, S Z W cs H ∧ Rep Z W x d ∧ Rep Z W y e ∧ wp (eqDyn eqs ord neg d e) cs (okP Z W Q) fun _ _ => False
/-- what the machine asks, in three forms -/
theorem eqDyn_ok {W : Wd} {cs : Cells} {H : Hp} {x y : V} {d e : D} {neg : Bool} {Q : VK} (o : EqOk X.prog X.w X.K X.mg X.base k T eqs ord) (t : TbOk (sx X) T) (s : S (sx X) W cs H) (rx : Rep (sx X) W x d) (ry : Rep (sx X) W y e) (w : wp (eqDyn eqs ord neg d e) cs (okP (sx X) W Q) fun _ _ => False) :
    (∃ b, eqB cs d e = some b ∧ Q (.bl (b != neg)) H) ∨
    (∃ a Cl dx fs g Fe u, x = .ref a ∧ H a = some (.ins Cl dx fs) ∧ E.OwnEq X.K Cl g ∧ FnG X.prog X.w X.K X.mg X.base k g [] Fe ∧ TyX X.K H y u ∧ PySem.W.notFirst X.K Cl u = true ∧ wp (negB neg (Fe [d, e] [])) cs (okP (sx X) W Q) fun _ _ => False) ∨
    (∃ a Cl dx fs b Dl dy gs g Fe, x = .ref a ∧ H a = some (.ins Cl dx fs) ∧ y = .ref b ∧ H b = some (.ins Dl dy gs) ∧ E.OwnEq X.K Dl g ∧ FnG X.prog X.w X.K X.mg X.base k g [] Fe ∧ Dl ≠ Cl ∧ PySem.W.subIn X.K (.ref Dl) (.ref Cl) = some true ∧ wp (negB neg (Fe [e, d] [])) cs (okP (sx X) W Q) fun _ _ => False) := by
  cases q : insOf cs d with
  | none =>
    have e1 : eqDyn eqs ord neg d e cs = rd (fun cs => (eqB cs d e).map fun b => D.bl (b != neg)) cs := by
      unfold eqDyn
      rw [q]
    obtain ⟨r, hr, k1⟩ := wp_rd.mp (wp_congr e1 w)
    cases qb : eqB cs d e with
    | none => rw [qb] at hr; cases hr
    | some b =>
      rw [qb] at hr
      cases hr
      exact .inl ⟨b, rfl, k1 W _ H (Le.refl _) rfl s (.bl _)⟩
  | some cf =>
    obtain ⟨c, fs⟩ := cf
    obtain ⟨a, Cl, dx, us, rfl, m, ha, rf⟩ := insOf_ok s rx q
    cases qt : tagOf cs e with
    | none =>
      have e1 : eqDyn eqs ord neg d e cs = (no : EM D) cs := by unfold eqDyn; rw [q]; dsimp only; rw [qt]; rfl
      exact (wp_congr e1 w).elim
    | some tg =>
      cases qo : ord.at_ c tg with
      | none =>
        have e1 : eqDyn eqs ord neg d e cs = (no : EM D) cs := by unfold eqDyn; rw [q]; dsimp only; rw [qt]; dsimp only; rw [qo]; rfl
        exact (wp_congr e1 w).elim
      | some bb =>
        obtain ⟨u, hu, hh, hb⟩ := o.ord_ok qo m
        have ty : TyX X.K H y u := by
          cases tg with
          | b n => cases hu; exact tag_b s ry qt
          | c c' =>
            obtain ⟨Cl', m', ty⟩ := tag_c t s ry qt hh
            have hu' : X.mg c' = some u := hu
            rw [show X.mg c' = some (.ref Cl') from m'] at hu'
            cases hu'
            exact ty
        cases bb with
        | true =>
          cases qe : eqs.at_ c with
          | none =>
            have e1 : eqDyn eqs ord neg d e cs = (no : EM D) cs := by unfold eqDyn; rw [q]; dsimp only; rw [qt]; dsimp only; rw [qo]; dsimp only; rw [qe]; rfl
            exact (wp_congr e1 w).elim
          | some Fe =>
            have e1 : eqDyn eqs ord neg d e cs = negB neg (Fe [d, e] []) cs := by unfold eqDyn; rw [q]; dsimp only; rw [qt]; dsimp only; rw [qo]; dsimp only; rw [qe]
            obtain ⟨g, h1, h2⟩ := o.eq_ok qe m
            exact .inr (.inl ⟨a, Cl, dx, us, g, Fe, u, rfl, ha, h1, h2, ty, hb, wp_congr e1 w⟩)
        | false =>
          cases tg with
          | b n =>
            have e1 : eqDyn eqs ord neg d e cs = (no : EM D) cs := by unfold eqDyn; rw [q]; dsimp only; rw [qt]; dsimp only; rw [qo]; rfl
            exact (wp_congr e1 w).elim
          | c c' =>
            cases qe : eqs.at_ c' with
            | none =>
              have e1 : eqDyn eqs ord neg d e cs = (no : EM D) cs := by unfold eqDyn; rw [q]; dsimp only; rw [qt]; dsimp only; rw [qo]; dsimp only; rw [qe]; rfl
              exact (wp_congr e1 w).elim
            | some Fe =>
              have e1 : eqDyn eqs ord neg d e cs = negB neg (Fe [e, d] []) cs := by unfold eqDyn; rw [q]; dsimp only; rw [qt]; dsimp only; rw [qo]; dsimp only; rw [qe]
              obtain ⟨fs2, q2⟩ : ∃ fs2, insOf cs e = some (c', fs2) := by
                cases e with
                | ins k fs2 => cases qt; exact ⟨fs2, rfl⟩
                | cel n =>
                  have qt' : (match cs[n]? with | some (.lst _) => some (Tag.b "list") | some (.ins c _) => some (.c c) | some (.dct _) => some (.b "dict") | _ => none) = some (.c c') := qt
                  split at qt'
                  · cases qt'
                  · rename_i k fs2 hc
                    cases qt'
                    exact ⟨fs2, by show (match cs[n]? with | some (.ins c fs) => some (c, fs) | _ => none) = _; rw [hc]⟩
                  · cases qt'
                  · cases qt'
                | _ => cases qt
              obtain ⟨b, Dl, dy, gs, rfl, m2, hb2, _⟩ := insOf_ok s ry q2
              have hu' : X.mg c' = some u := hu
              rw [show X.mg c' = some (.ref Dl) from m2] at hu'
              cases hu'
              obtain ⟨g, h1, h2⟩ := o.eq_ok qe m2
              exact .inr (.inr ⟨a, Cl, dx, us, b, Dl, dy, gs, g, Fe, rfl, ha, rfl, hb2, h1, h2, fun z => hb.1 (by rw [z]), hb.2, wp_congr e1 w⟩)
theorem od_eqO (o : EqOk X.prog X.w X.K X.mg X.base k T eqs ord) (t : TbOk (sx X) T) (hr : RmG j X.A) (hk : k + 1 ≤ j) : OpR X (compareOp .Eq) (rEqO (sx X) eqs ord false) := by
  intro pins s σ H x y u v Q I rx ry h
  obtain ⟨W, cs, d, e, ss, rd1, rd2, w⟩ := h
  have hr' := hr.mono hk
  rcases eqDyn_ok o t ss rd1 rd2 w with ⟨b, hb, q⟩ | ⟨a, Cl, dx, fs, g, Fe, t', rfl, ha, O, hF, ty, hn, q⟩ | ⟨a, Cl, dx, fs, b, Dl, dy, gs, g, Fe, rfl, ha, rfl, hb, O, hF, ne, hs, q⟩
  · rw [Bool.bne_false] at q
    refine E.op_eqU hr'.room.units pins s σ H x y u v Q I rx ry ?_
    rcases eqB_ok ss rd1 rd2 hb with ⟨h1, rfl⟩ | ⟨p, q', h1, h2, h3, h4, rfl⟩
    · exact Or.inl ⟨h1, q⟩
    · exact Or.inr ⟨p, q', h1, h2, h3, h4, q⟩
  · cases (show u = Value.ref a from rx)
    obtain ⟨mA, OM, _⟩ := ins_get I.hok ha
    obtain ⟨od, J, _⟩ := OM.look
    show wpAny _ _ (richCompare .Eq _ _) _ _ _
    obtain ⟨P', Z', p', _⟩ := kit_of I ry ty
    refine PySem.W.cmp_left hr'.room.units0 I.kIn J (Z'.ty _ _ I.kIn p') hn ?_
    refine PySem.W.try_eq I.kIn J O.eq O.fn (wpAny_mono (run_eq (us := [.ref a, v]) (vs := [.ref a, y]) (Q := Q) hF (hr'.mono (Nat.le_succ _)) I.env0 I (.cons rfl (.cons ry .nil)) ss (.cons rd1 (.cons rd2 .nil)) q) (fun w' s' ⟨b, eb, H', I', qq⟩ => ?_) fun _ _ x => x)
    subst eb
    rw [Bool.bne_false] at qq
    exact ⟨b, rfl, _, rfl, .bl b, H', I', rfl, qq⟩
  · cases (show u = Value.ref a from rx)
    cases (show v = Value.ref b from ry)
    obtain ⟨mA, OM, _⟩ := ins_get I.hok ha
    obtain ⟨od, J, _⟩ := OM.look
    obtain ⟨mB, OM2, _⟩ := ins_get I.hok hb
    obtain ⟨od2, J2, _⟩ := OM2.look
    show wpAny _ _ (richCompare .Eq _ _) _ _ _
    refine PySem.W.cmp_right hr'.room.units0 I.kIn J J2 ne hs ?_
    refine PySem.W.try_eq I.kIn J2 O.eq O.fn (wpAny_mono (run_eq (us := [.ref b, .ref a]) (vs := [.ref b, .ref a]) (Q := Q) hF (hr'.mono (Nat.le_succ _)) I.env0 I (.cons rfl (.cons rfl .nil)) ss (.cons rd2 (.cons rd1 .nil)) q) (fun w' s' ⟨b', eb, H', I', qq⟩ => ?_) fun _ _ x => x)
    subst eb
    rw [Bool.bne_false] at qq
    exact ⟨b', rfl, _, rfl, .bl b', H', I', rfl, qq⟩
theorem od_neO (o : EqOk X.prog X.w X.K X.mg X.base k T eqs ord) (t : TbOk (sx X) T) (hr : RmG j X.A) (hk : k + 1 ≤ j) : OpR X (compareOp .NotEq) (rEqO (sx X) eqs ord true) := by
  intro pins s σ H x y u v Q I rx ry h
  obtain ⟨W, cs, d, e, ss, rd1, rd2, w⟩ := h
  have hr' := hr.mono hk
  rcases eqDyn_ok o t ss rd1 rd2 w with ⟨b, hb, q⟩ | ⟨a, Cl, dx, fs, g, Fe, t', rfl, ha, O, hF, ty, hn, q⟩ | ⟨a, Cl, dx, fs, b, Dl, dy, gs, g, Fe, rfl, ha, rfl, hb, O, hF, ne, hs, q⟩
  · rw [Bool.bne_true] at q
    refine E.op_neU hr'.room.units pins s σ H x y u v Q I rx ry ?_
    rcases eqB_ok ss rd1 rd2 hb with ⟨h1, rfl⟩ | ⟨p, q', h1, h2, h3, h4, rfl⟩
    · exact Or.inl ⟨h1, q⟩
    · exact Or.inr ⟨p, q', h1, h2, h3, h4, q⟩
  · cases (show u = Value.ref a from rx)
    obtain ⟨mA, OM, _⟩ := ins_get I.hok ha
    obtain ⟨od, J, _⟩ := OM.look
    show wpAny _ _ (richCompare .NotEq _ _) _ _ _
    obtain ⟨P', Z', p', _⟩ := kit_of I ry ty
    refine PySem.W.cmp_left (op := .NotEq) hr'.room.units0 I.kIn J (Z'.ty _ _ I.kIn p') hn ?_
    refine PySem.W.try_ne hr'.in1.room.units0 I.kIn J O.eq O.fn O.ne O.ob (wpAny_mono (run_eq (us := [.ref a, v]) (vs := [.ref a, y]) (Q := Q) hF hr'.in1 I.env0.in1 I (.cons rfl (.cons ry .nil)) ss (.cons rd1 (.cons rd2 .nil)) q) (fun w' s' ⟨b, eb, H', I', qq⟩ => ?_) fun _ _ x => x)
    subst eb
    rw [Bool.bne_true] at qq
    exact ⟨b, rfl, _, rfl, .bl (!b), H', I', rfl, qq⟩
  · cases (show u = Value.ref a from rx)
    cases (show v = Value.ref b from ry)
    obtain ⟨mA, OM, _⟩ := ins_get I.hok ha
    obtain ⟨od, J, _⟩ := OM.look
    obtain ⟨mB, OM2, _⟩ := ins_get I.hok hb
    obtain ⟨od2, J2, _⟩ := OM2.look
    show wpAny _ _ (richCompare .NotEq _ _) _ _ _
    refine PySem.W.cmp_right (op := .NotEq) hr'.room.units0 I.kIn J J2 ne hs ?_
    refine PySem.W.try_ne hr'.in1.room.units0 I.kIn J2 O.eq O.fn O.ne O.ob (wpAny_mono (run_eq (us := [.ref b, .ref a]) (vs := [.ref b, .ref a]) (Q := Q) hF hr'.in1 I.env0.in1 I (.cons rfl (.cons rfl .nil)) ss (.cons rd2 (.cons rd1 .nil)) q) (fun w' s' ⟨b', eb, H', I', qq⟩ => ?_) fun _ _ x => x)
    subst eb
    rw [Bool.bne_true] at qq
    exact ⟨b', rfl, _, rfl, .bl (!b'), H', I', rfl, qq⟩
end
section
variable {X : Cx} {z : ZT} {e a b : Expr} {fa fb : XE} {eqs : EqT} {ord : OrT} {neg : Bool}
theorem eqT {B : Wd} {Eo : Exn → Loc → Cells → Prop} {σ : L2.St} {H : Hp} {Q : VK} (h : tE (sx X) z B (xEq eqs ord neg fa fb) Eo σ H Q) : tOp (rEqO (sx X) eqs ord neg) (tE (sx X) z B fa Eo) (tE (sx X) z B fb Eo) σ H Q := by
  obtain ⟨W, cs, l, s, lr, w⟩ := h
  refine ⟨W, cs, l, s, lr, wp_imp (wp_bd.mp w) (fun d cs1 w1 W1 v1 H1 le1 o1 s1 r1 => ?_) fun _ _ h => h⟩
  refine ⟨W1, cs1, l, s1, lr.mono le1 o1, wp_imp (wp_bd.mp w1) (fun e cs2 w2 W2 v2 H2 le2 o2 s2 r2 => ?_) fun _ _ h => h⟩
  exact ⟨W2, cs2, d, e, s2, r1.mono le2, r2, wp_imp (wp_nox w2) (fun r cs3 k W3 v H3 le3 o3 s3 r3 => k W3 v H3 ((le1.trans le2).trans le3) (o3.trans (o2.trans o1)) s3 r3) fun _ _ h => h⟩
theorem je_eq (hp : ∀ {t u : TE}, PE X a t → PE X b u → PE X e (tOp (rEqO (sx X) eqs ord neg) t u)) (ha : JE X z a fa) (hb : JE X z b fb) : JE X z e (xEq eqs ord neg fa fb) := ⟨fun B Eo tk => pe_imp (hp (ha.run B Eo tk) (hb.run B Eo tk)) fun _ _ _ h => eqT h⟩
theorem jt_eq (hp : ∀ {t u : TE}, PE X a t → PE X b u → PT X e (tTest (tOp (rEqO (sx X) eqs ord neg) t u))) (ha : JE X z a fa) (hb : JE X z b fb) : JT X z e (bV (xEq eqs ord neg fa fb)) := ⟨fun B Eo tk => pt_imp (hp (ha.run B Eo tk) (hb.run B Eo tk)) fun _ _ _ h => eqT (bV_ok h)⟩
end
end F

/-! the entry: a law -/
namespace F
open PySem PySem.Spec PyProof.Rows L2 Evl
/-- what is laid ahead of the law's call -/
def onlyAt (a : Addr) (o : Obj) (u : HO) : Hp := fun b => if b = a then some (.frz o u) else none
theorem onlyAt_some {a b : Addr} {o : Obj} {u v : HO} (h : onlyAt a o u b = some v) : b = a ∧ v = .frz o u := by
  unfold onlyAt at h
  split at h
  · rename_i e
    cases h
    exact ⟨e, rfl⟩
  · cases h
section
variable {P : Program} {w : World} {K : PySem.W.Frag} {mg mb : Str → Option Value} {k : Nat} {fa a : Addr} {s1 : Shared} {us : List Value} {ns : List Int} {Fl : List D → List D → EM D}
/-- from a heap at which nothing but the script is tracked -/
theorem enter {H : Hp} (hn : s1.heap.Ns mainGlobals mg) (hb : s1.heap.Ns builtinsNs mb) (hbb : ∀ x : Str, x ≠ "__name__" → mb x = bootBuiltins x) (hlim : s1.heap.NoLimit) (hg : s1.gens = #[]) (ha : s1.heap.get? a = some { cls := .type "list", data := .seq us.toArray })
    (hr : RmG k callerA) (hF : ∀ base : Heap, K.In base → base.Ns mainGlobals mg → FnG P w K mg base k fa [] Fl) (hl : ∀ cs, ∃ cs', Fl [.wls (ns.map D.int)] [] cs = .ok (.bl true) cs')
    (hS : SqL K H a (ns.map V.int)) (ok : HOk P w H s1.heap) (on : ∀ b u, H b = some u → b = a ∧ ∃ o xs, u = .frz o (.lst xs)) (KB : K.In (hidT s1.heap H)) :
    codeAny (model P w) callerA (.call (.ref fa) ⟨[.ref a], []⟩) (fun r s' => r = .ok (.ret (.bool true)) ∧ OldK s1.heap s'.heap ∧ s'.os = s1.os ∧ AllBare s'.gens) s1 := by
  have dictFree : ∀ {b : Addr} {o : Obj} {es : Array DictEntry} {ep : Nat}, s1.heap.get? b = some o → o.data = .dict es ep → H b = none := fun {b o es ep} e dd => by
    cases q : H b with
    | none => rfl
    | some u =>
      obtain ⟨rfl, _⟩ := on b u q
      rw [ha] at e
      cases e
      exact nomatch dd
  have ns2 : ∀ {b : Addr} {m : Str → Option Value}, s1.heap.Ns b m → (hidT s1.heap H).Ns b m := fun {b m} hm => by
    obtain ⟨o, es, ep, e, dd, rest⟩ := hm
    exact ⟨o, es, ep, hidT_get e (dictFree e dd), dd, rest⟩
  have lim2 : (hidT s1.heap H).NoLimit := by
    obtain ⟨mc, h1, h2⟩ := hlim
    exact ⟨mc, ns2 h1, h2⟩
  have md : Mod K mg (hidT s1.heap H) := { kin := KB, glob := ns2 hn, blt := ⟨mb, ns2 hb, hbb⟩, nolimit := lim2 }
  have env : Env0 P w K mg (hidT s1.heap H) callerA [] s1 H := { frames := rfl, mod := md, bs := fun b o e => of_hidT e, bsz := Nat.le_of_eq (hidT_size _ _), funs := trivial, frf := fun b hb => (List.not_mem_nil hb).elim, hok := ok, bare := .of_eq hg }
  have st : S ⟨P, w, K, mg⟩ ⟨H, fun _ => none, []⟩ [] H := { g := Ex.refl _, o := (fun _ _ e => (nomatch e)), dj := (fun _ _ e => (nomatch e)), len := rfl, nd := List.nodup_nil, al := (fun _ h => (nomatch h)), fo := (fun _ h => (nomatch h)), at_ := (fun n a c h => by simp at h) }
  obtain ⟨cs', el⟩ := hl []
  have intsR : ∀ ms : List Int, RepA ⟨P, w, K, mg⟩ ⟨H, fun _ => none, []⟩ (ms.map V.int) (ms.map D.int) := fun ms => by
    induction ms with
    | nil => exact .nil
    | cons m ms ih => exact .cons (.int m) ih
  have sp : spF ⟨P, w, K, mg⟩ Fl [.ref a] [] H (fun v _ => v = .bl true) (fun _ _ _ => False) := ⟨_, [], [.wls (ns.map D.int)], [], st, .cons (.wls hS (intsR ns)) .nil, .nil, by
    unfold wp
    rw [el]
    exact fun W' v H' _ _ _ rv => rep_bl rv⟩
  refine codeAny_mono (hF _ KB (ns2 hn) callerA [] s1 H [.ref a] [.ref a] [] [] _ _ hr env (.cons rfl .nil) .nil rfl sp) fun rr s' h => ?_
  cases rr with
  | error e =>
    obtain ⟨_, _, _, _, _, _, _, _, _, _, _, _, he⟩ := h
    exact he.elim
  | ok fl =>
    cases fl with
    | ret u =>
      obtain ⟨v, H', h1, h2, h3, h4, h5, h6⟩ := h
      have h6' : v = .bl true := h6
      subst h6'
      obtain rfl : u = Value.bool true := h5
      refine ⟨rfl, OldK.of_keep fun b o e => ?_, h1, h2⟩
      cases q : H b with
      | none => exact h3.keep b o e q (fun z => (List.not_mem_nil (show b ∈ ([] : List Addr) from z)).elim) (by simp)
      | some v =>
        obtain ⟨_, ob, xs, rfl⟩ := on b v q
        obtain ⟨e1, _⟩ := ok b _ q
        obtain ⟨e2, _⟩ := h4 b _ (h3.frzs b ob _ q)
        rw [e] at e1
        cases e1
        exact e2
    | next => exact False.elim h
    | brk => exact False.elim h
    | cont => exact False.elim h
end
/-- the law's def computes Fl, and that is True at every script -/
theorem walk_F {l : PySem.W.OpenLaw} {n k : Nat} {q : Program} {loose : List Str} {XP : (Str → Option Value) → Heap → Prop} {YP : World → Heap → Prop} {d : DefRec} {Fl : List D → List D → EM D} (hn : l.most = some n) (hn2 : n ≤ sizeLine) (hdf : d.params.defaults = []) (hr : RmG k callerA)
    (hF : ∀ (w : World) (mg : Str → Option Value) (fa : Addr) (h : Heap), YP w h → h.Ns mainGlobals mg → mg d.name = some (.ref fa) → ∃ K : PySem.W.Frag, K.In h ∧ ∀ base : Heap, K.In base → base.Ns mainGlobals mg → FnG l.prog w K mg base k fa [] Fl)
    (hl : ∀ (ns : List Int), ns.length ≤ n → ∀ cs, ∃ cs', Fl [.wls (ns.map D.int)] [] cs = .ok (.bl true) cs') : PySem.W.WalkO q loose XP YP l.row.toRowW d [] (fun f vs => PySem.call f vs) := by
  refine Att.attach_call hn hdf fun w s0 s1 mg mb fa o pm cd doc a vs ns G Y ho hd hcd hmg hobj hints hlen hg => ?_
  obtain ⟨K, KX, hF⟩ := hF w mg fa _ Y G.T.g hmg
  have rv := vals_ints hints
  have lv := hints.length
  have lz : ns.length ≤ sizeLine := Nat.le_trans hlen hn2
  cases hk : K.lookup a with
  | some ob =>
    have e := KX a ob hk
    rw [hobj] at e
    cases e
    refine enter (H := fun _ => none) G.T.g G.T.b G.T.builtins G.T.nolimit hg hobj hr hF (hl ns hlen) (.inr ⟨_, vs.toArray, _, hk, rfl, rfl, rfl, by rw [List.size_toArray, lv]; exact lz, by simpa using rv⟩) (fun b u e => nomatch e) (fun b u e => nomatch e) fun b o e => hidT_get (KX b o e) rfl
  | none =>
    refine enter (H := onlyAt a { cls := .type "list", data := .seq vs.toArray } (.lst (ns.map V.int))) G.T.g G.T.b G.T.builtins G.T.nolimit hg hobj hr hF (hl ns hlen) (.inl (.inr ⟨_, if_pos rfl⟩)) (fun b u e => ?_) (fun b u e => ?_) fun b o e => ?_
    · obtain ⟨rfl, rfl⟩ := onlyAt_some e
      exact ⟨hobj, by rw [List.length_map]; exact lz, vs, _, rv, hobj⟩
    · obtain ⟨e1, e2⟩ := onlyAt_some e
      exact ⟨e1, _, _, e2⟩
    · refine hidT_get (KX b o e) (if_neg fun z => ?_)
      rw [z, hk] at e
      cases e
end F

/-! the head's facts, by Bools -/
namespace F
open PySem PySem.Spec PyProof.Rows L2 He E
def gloB (K : PySem.W.Frag) (x : Str) : Bool := (Fa.glo x).ok K
def tagA (K : PySem.W.Frag) : Tag → Value
  | .b n => .type n
  | .c x => .ref (ga K x)
def tagG (K : PySem.W.Frag) : Tag → Bool
  | .b _ => true
  | .c x => gloB K x
def vD : D → Option V
  | .non => some .non
  | .bl b => some (.bl b)
  | .int i => some (.int i)
  | .str x => if x.length ≤ 1000000 then some (.str x) else none
  | _ => none
theorem vD_ok {Z : Sx} {W : Wd} {d : D} {v : V} (h : vD d = some v) : Rep Z W v d := by
  cases d with
  | non => cases h; exact .non
  | bl b => cases h; exact .bl b
  | int i => cases h; exact .int i
  | str x =>
    have h' : (if x.length ≤ 1000000 then some (V.str x) else none) = some v := h
    by_cases c : x.length ≤ 1000000
    · rw [if_pos c] at h'
      cases h'
      exact .str (Nat.le_trans c (by decide))
    · rw [if_neg c] at h'
      cases h'
  | _ => cases h
def tbB (K : PySem.W.Frag) (T : Tb) : Bool := (T.cis.all fun q => gloB K q.1 && (clsFB K (ga K q.1) && noAtB K (ga K q.1) q.2)) && ((T.isi.all fun q => tagG K q.1 && (tagG K q.2.1 && decide (PySem.W.kitOne K (tagA K q.1) (tagA K q.2.1) = some q.2.2))) &&
  T.con.all fun q => gloB K q.1 && (match vD q.2.2 with
    | some v => conB K (ga K q.1) q.2.1 v
    | none => false))
def teB (K : PySem.W.Frag) (T : Te) : Bool := (T.exc.all fun q => gloB K q.1 && (xfB K (ga K q.1) && (excCB K (ga K q.1) && noAtB K (ga K q.1) q.2))) && T.exm.all fun q => gloB K q.1 && (tagG K q.2.1 && decide (PySem.W.exmOne K (.ref (ga K q.1)) (tagA K q.2.1) = some q.2.2))
def ordB (K : PySem.W.Frag) (T : Tb) (o : OrT) : Bool := o.all fun q => gloB K q.1 && (tagG K q.2.1 && ((match q.2.1 with | .c c => T.has c | .b _ => true) && (if q.2.2 = true then PySem.W.notFirst K (ga K q.1) (tagA K q.2.1) else !decide (tagA K q.2.1 = .ref (ga K q.1)) && decide (PySem.W.subIn K (tagA K q.2.1) (.ref (ga K q.1)) = some true))))
section
variable {P : Program} {w : World} {K : PySem.W.Frag} {mg : Str → Option Value} {h : Heap}
theorem tagG_ok (X : K.In h) (G : h.Ns mainGlobals mg) {t : Tag} (e : tagG K t = true) : tagV ⟨P, w, K, mg⟩ t = some (tagA K t) := by
  cases t with
  | b n => rfl
  | c x => exact glo_ok X G e
theorem tbB_ok {T : Tb} (X : K.In h) (G : h.Ns mainGlobals mg) (e : tbB K T = true) : TbOk ⟨P, w, K, mg⟩ T := by
  obtain ⟨e1, e⟩ := ba e
  obtain ⟨e2, e3⟩ := ba e
  refine ⟨fun q hq => ?_, fun q hq => ?_, fun q hq => ?_⟩
  · obtain ⟨h1, h2⟩ := ba (List.all_eq_true.mp e1 q hq)
    obtain ⟨h3, h4⟩ := ba h2
    exact ⟨_, glo_ok X G h1, clsFB_ok h3, fun f hf => noAtB_ok h4 hf⟩
  · obtain ⟨h1, h2⟩ := ba (List.all_eq_true.mp e2 q hq)
    obtain ⟨h3, h4⟩ := ba h2
    exact ⟨_, _, tagG_ok X G h1, tagG_ok X G h3, of_decide_eq_true h4⟩
  · obtain ⟨h1, h2⟩ := ba (List.all_eq_true.mp e3 q hq)
    cases qv : vD q.2.2 with
    | none => rw [qv] at h2; cases h2
    | some v =>
      rw [qv] at h2
      obtain ⟨u, hu⟩ := conB_ok h2
      exact ⟨_, v, u, glo_ok X G h1, hu, fun W => vD_ok qv⟩
theorem teB_ok {T : Te} (X : K.In h) (G : h.Ns mainGlobals mg) (e : teB K T = true) : TeOk ⟨P, w, K, mg⟩ T := by
  obtain ⟨e1, e2⟩ := ba e
  refine ⟨fun q hq => ?_, fun q hq => ?_⟩
  · obtain ⟨h1, h2⟩ := ba (List.all_eq_true.mp e1 q hq)
    obtain ⟨h3, h4⟩ := ba h2
    obtain ⟨h5, h6⟩ := ba h4
    exact ⟨_, glo_ok X G h1, xfB_ok h3, excCB_ok h5, fun f hf => noAtB_ok h6 hf⟩
  · obtain ⟨h1, h2⟩ := ba (List.all_eq_true.mp e2 q hq)
    obtain ⟨h3, h4⟩ := ba h2
    exact ⟨_, _, glo_ok X G h1, tagG_ok X G h3, of_decide_eq_true h4⟩
theorem ordB_ok {T : Tb} {o : OrT} (X : K.In h) (G : h.Ns mainGlobals mg) (e : ordB K T o = true) : ∀ q ∈ o, ∃ Cl t, mg q.1 = some (.ref Cl) ∧ tagV ⟨P, w, K, mg⟩ q.2.1 = some t ∧ tagHas T q.2.1 ∧ (if q.2.2 = true then PySem.W.notFirst K Cl t = true else t ≠ .ref Cl ∧ PySem.W.subIn K t (.ref Cl) = some true) := by
  intro q hq
  obtain ⟨h1, h2⟩ := ba (List.all_eq_true.mp e q hq)
  obtain ⟨h3, h4⟩ := ba h2
  obtain ⟨h5, h6⟩ := ba h4
  refine ⟨_, _, glo_ok X G h1, tagG_ok X G h3, ?_, ?_⟩
  · cases qt : q.2.1 with
    | b n => exact True.intro
    | c c => rw [qt] at h5; exact h5
  · by_cases c : q.2.2 = true
    · rw [if_pos c] at h6 ⊢
      exact h6
    · rw [if_neg c] at h6 ⊢
      obtain ⟨h7, h8⟩ := ba h6
      refine ⟨fun z => ?_, of_decide_eq_true h8⟩
      rw [decide_eq_true z] at h7
      cases h7
end
/-- the module's names -/
structure Fx (K : PySem.W.Frag) (mg : Str → Option Value) (free glo : List Str) (nts : List (Str × Int)) (xts : List (Str × Str)) : Prop where
  fr : ∀ (i : Nat) {x : Str}, free[i]? = some x → mg x = none
  gl : ∀ (i : Nat) {x : Str}, glo[i]? = some x → mg x = some (.ref (ga K x))
  it : ∀ (i : Nat) {x : Str} {n : Int}, nts[i]? = some (x, n) → ∃ u, mg x = some u ∧ RelV (.int n) u
  st : ∀ (i : Nat) {x y : Str}, xts[i]? = some (x, y) → ∃ u, mg x = some u ∧ RelV (.str y) u
def fxB (K : PySem.W.Frag) (free glo : List Str) (nts : List (Str × Int)) (xts : List (Str × Str)) : Bool := (free.all fun x => (Fa.free x).ok K) && ((glo.all fun x => gloB K x) && ((nts.all fun q => (Fa.int q.1 q.2).ok K) && xts.all fun q => (Fa.str q.1 q.2).ok K))
theorem fxB_ok {K : PySem.W.Frag} {mg : Str → Option Value} {h : Heap} {free glo : List Str} {nts : List (Str × Int)} {xts : List (Str × Str)} (X : K.In h) (G : h.Ns mainGlobals mg) (e : fxB K free glo nts xts = true) : Fx K mg free glo nts xts := by
  obtain ⟨e1, e⟩ := ba e
  obtain ⟨e2, e⟩ := ba e
  obtain ⟨e3, e4⟩ := ba e
  refine ⟨fun i x hx => free_ok X G (List.all_eq_true.mp e1 x (List.mem_of_getElem? hx)), fun i x hx => glo_ok X G (List.all_eq_true.mp e2 x (List.mem_of_getElem? hx)), fun i x n hx => ?_, fun i x y hx => ?_⟩
  · obtain ⟨t, z⟩ := int_ok X G (List.all_eq_true.mp e3 _ (List.mem_of_getElem? hx))
    exact ⟨_, z, t, rfl⟩
  · obtain ⟨t, z⟩ := str_ok X G (List.all_eq_true.mp e4 _ (List.mem_of_getElem? hx))
    exact ⟨_, z, t, rfl⟩
/-- own exceptions: the class, its base -/
inductive XB4 | v | o | l | r
def xbT : XB4 → List Value × String
  | .v => (tlV, "ValueError.__new__")
  | .o => (tlO, "OverflowError.__new__")
  | .l => (tlL, "LookupError.__new__")
  | .r => (tlR, "RuntimeError.__new__")
def exrB (K : PySem.W.Frag) (x : Str) (b : XB4) (ns : List Str) : Bool := gloB K x && (oexB K (ga K x) (xbT b).1 (xbT b).2 && (eqO (PySem.W.findIn K (.ref (ga K x)) "__init__") (some (some (.ref (ma K (ga K x) "__init__")))) && (decide (PySem.W.typeIn K (.ref (ma K (ga K x) "__init__")) = some (.type "function")) && noAtB K (ga K x) ns)))
theorem exrB_ok {P : Program} {w : World} {K : PySem.W.Frag} {mg : Str → Option Value} {h : Heap} {base : Heap} {k : Nat} {x : Str} {b : XB4} {ns ps : List Str} {fd : FuncData} (X : K.In h) (G : h.Ns mainGlobals mg) (e : exrB K x b ns = true)
    (F : FnOk P w K mg base CX0 k (ma K (ga K x) "__init__") fd ps (spE K (ga K x) ns)) (bi : Binds K fd ps []) : ExrG P w K mg base k x ns := by
  obtain ⟨h1, e⟩ := ba e
  obtain ⟨h2, e⟩ := ba e
  obtain ⟨h3, e⟩ := ba e
  obtain ⟨h4, h5⟩ := ba e
  have ox : OexB K (ga K x) := by
    cases b with
    | v => exact oexB_ok base_V h2
    | o => exact oexB_ok base_O h2
    | l => exact oexB_ok base_L h2
    | r => exact oexB_ok base_R h2
  exact ⟨⟨_, ⟨⟨_, fd, ps, ox, eqO_ok h3, of_decide_eq_true h4, F, bi⟩, glo_ok X G h1⟩, fun f hf => noAtB_ok h5 hf⟩⟩
/-- self.f = y -/
theorem ox1 {K : PySem.W.Frag} {Cl : Addr} {f : Str} {vs : List V} {H : Hp} {Q : VK} {Er : XK} (h : spE K Cl [f] vs H Q Er) : tOsB K f (tVar 0) (tVar 1) { nx := fun _ H' => Q .non H', rt := Q } (vs.map some) H := by
  obtain ⟨a, ys, rfl, hl, ox, hno, ha, q⟩ := h
  match ys, hl with
  | [y], _ => exact ⟨y, rfl, .ref a, rfl, a, Cl, rfl, ox, hno f (by simp), .inl ⟨ha, fun dx h1 h2 => q dx h1 h2⟩⟩
theorem ox2 {K : PySem.W.Frag} {Cl : Addr} {f g : Str} {vs : List V} {H : Hp} {Q : VK} {Er : XK} (h : spE K Cl [f, g] vs H Q Er) : tSeq (tOsB K f (tVar 0) (tVar 1)) (tOsB K g (tVar 0) (tVar 2)) { nx := fun _ H' => Q .non H', rt := Q } (vs.map some) H := by
  obtain ⟨a, ys, rfl, hl, ox, hno, ha, q⟩ := h
  match ys, hl with
  | [y, u], _ =>
    refine ⟨y, rfl, .ref a, rfl, a, Cl, rfl, ox, hno f (by simp), .inl ⟨ha, fun dx h1 h2 => ?_⟩⟩
    refine ⟨u, rfl, .ref a, rfl, a, Cl, rfl, ox, hno g (by simp), .inr ⟨dx, [(f, y)], upd_same, by rw [upd_ne h2, upd_same], by simp, ?_⟩⟩
    have e : upd (upd (upd H dx (exd dx [(f, y)])) a (exo a Cl (some dx))) dx (exd dx [(g, u), (f, y)]) = upd (upd H dx (exd dx ([f, g].zip [y, u]).reverse)) a (exo a Cl (some dx)) := by
      funext b
      by_cases hb : b = dx
      · rw [hb, upd_same, upd_ne h2, upd_same]
        rfl
      · rw [upd_ne hb]
        by_cases hba : b = a
        · rw [hba, upd_same, upd_same]
        · rw [upd_ne hba, upd_ne hba, upd_ne hb, upd_ne hb]
    show Q .non _
    rw [e]
    exact q dx h1 h2
end F

/-! further shapes and facts -/
namespace F
open PySem PySem.Spec PyProof.Rows L2 He E
def arrO (a b : List D → List D → Option (List D)) : List D → List D → Option (List D) := fun ds es => match a ds es with
  | some x => some x
  | none => b ds es
section
variable {P : Program} {w : World} {K : PySem.W.Frag} {mg : Str → Option Value} {base : Heap} {f : Addr} {x qual : Str} {params : Arguments} {body : List Stmt} {scope : Scope} {dvs : List V} {kws : List (Str × V)} {fd : FuncData} {ps kn : List Str} {np : Nat} {a b : List D → List D → Option (List D)}
theorem shp_or (h1 : Shp P w K mg base fd ps np kn a) (h2 : Shp P w K mg base fd ps np kn b) : Shp P w K mg base fd ps np kn (arrO a b) := by
  intro A outer s H Er W cs ds es bs pre vs zs pu us ws e0 ss rp lp r rz lz ra rz' h
  unfold arrO at h
  split at h
  · rename_i y q
    cases h
    exact h1 A outer s H Er W cs ds es bs pre vs zs pu us ws e0 ss rp lp r rz lz ra rz' q
  · exact h2 A outer s H Er W cs ds es bs pre vs zs pu us ws e0 ss rp lp r rz lz ra rz' h
theorem shp_dfl {dd : List D} (Fd : FunD K x qual params body scope dvs kws f fd) (n j : Nat) (hd : dvs ≠ []) (hn : n + (dvs.length - j) = ps.length)
    (h : ∀ (T : Addr) (kV doc pm : Value) (an : Option Addr) (cdv ct : Value) (us its : List Value), us.length = n → its.length = dvs.length →
      ∃ k, bindArgs (PySem.W.fnOf x qual params body scope (.ref T) kV doc pm an cdv ct) ⟨us, []⟩ = seqItems? (.ref T) >>= k ∧ k (some its.toArray) = pure (ps.zip (us ++ its.drop j))) (rd : ∀ W, RepA ⟨P, w, K, mg⟩ W (dvs.drop j) dd) : Shp P w K mg base fd ps np [] (arrP ps.length np dd) := by
  obtain ⟨ds, dv, hb⟩ := FunD.binds1 (ps := ps) Fd n j hd hn h
  exact shp_pos hb dv rd
end
def statB (K : PySem.W.Frag) (C : Addr) (m : Str) : Bool := PySem.W.readsIn K C (mcOf K C) && (eqO (PySem.W.specialIn K (.ref C) "__getattribute__") (some (some (.builtin "type.__getattribute__"))) && (PySem.W.keepIn K (.ref (stAd K C m)) &&
  (match PySem.W.findCls K (.ref C) (mcOf K C) m with
  | some (.get (.builtin b) (.ref p) .none (.ref D)) => decide (b = "staticmethod.__get__") && (decide (D = C) && (match PySem.W.recIn K p "staticmethod" with
    | some (.ref _ :: _) => true
    | _ => false))
  | some (.val (.ref _)) => true
  | _ => false)))
theorem statB_ok {K : PySem.W.Frag} {C : Addr} {m : Str} (h : statB K C m = true) : Stat K C (mcOf K C) m (stAd K C m) := by
  obtain ⟨h1, h⟩ := ba h
  obtain ⟨h2, h⟩ := ba h
  obtain ⟨h3, h4⟩ := ba h
  refine ⟨h1, eqO_ok h2, ?_, h3⟩
  unfold stAd
  split at h4
  · rename_i b p D e
    obtain ⟨h5, h6⟩ := ba h4
    obtain ⟨h7, h8⟩ := ba h6
    have e5 := of_decide_eq_true h5
    have e7 := of_decide_eq_true h7
    subst e5 e7
    split at h8
    · rename_i g rest e2
      rw [e]
      dsimp only
      rw [e2]
      exact Or.inl ⟨p, rfl, rest, e2⟩
    · cases h8
  · rename_i g e
    rw [e]
    exact Or.inr rfl
  · cases h4
end F

/-! keyword-only parameters; empty tuples as defaults; list.clear -/
namespace F
open PySem PySem.Spec PyProof.Rows L2 He
def arrK (m : Nat) (f : List D → Option (List D)) : List D → List D → Option (List D) := fun ds es => match f es with
  | some ks => if ds.length = m then some (ds ++ ks) else none
  | none => none
section
variable {P : Program} {w : World} {K : PySem.W.Frag} {mg : Str → Option Value} {base : Heap} {f : Addr} {name qual : Str} {params : Arguments} {body : List Stmt} {scope : Scope} {kws : List (Str × V)} {fd : FuncData} {ps ms kn : List Str}
theorem shp_kwo (Fd : FunD K name qual params body scope [] kws f fd) {np : Nat} {mn : List (Str × V)} {mD : List D} (hms : ∀ q ∈ mn, q ∈ kws) {g : {α : Type} → List α → List α → List α} (hg : ∀ {zs mz : List V} {ws mv : List Value}, Vals zs ws → Vals mz mv → Vals (g zs mz) (g ws mv))
    (hgD : ∀ {W : Wd} {zs mz : List V} {es me : List D}, RepA ⟨P, w, K, mg⟩ W zs es → RepA ⟨P, w, K, mg⟩ W mz me → RepA ⟨P, w, K, mg⟩ W (g zs mz) (g es me)) (hmD : ∀ W, RepA ⟨P, w, K, mg⟩ W (mn.map (·.2)) mD)
    (hgl : ∀ {zs mz : List V}, zs.length = kn.length → mz.length = mn.length → (g zs mz).length = ms.length)
    (hb : ∀ (D : Addr) (kV doc pm : Value) (an : Option Addr) (cdv ct : Value) (us ws mv : List Value), us.length = ps.length → ws.length = kn.length → mv.length = mn.length → (mn ≠ [] → kV = .ref D) →
      KwChain D ((mn.map (·.1)).zip mv) (bindArgs (PySem.W.fnOf name qual params body scope .none kV doc pm an cdv ct) ⟨us, kn.zip ws⟩) (ps.zip us ++ ms.zip (g ws mv)))
    (hnp : np ≤ ps.length) : Shp P w K mg base fd (ps ++ ms) np kn (arrK (ps.length - np) fun es => some (g es mD)) := by
  intro A outer s H Er W cs ds es bs pre vs zs pu us ks e0 ss rp lp r rz lz ra rz' h A' Exx Q' q
  unfold arrK at h
  dsimp only at h
  split at h
  · rename_i hc
    cases h
    obtain ⟨oc, od, dV, kV, doc, pm, an, cdv, ct, osl, rfl, lk, hcd, hD, hK⟩ := Fd.ex
    rcases hD with ⟨_, rfl⟩ | ⟨e, _⟩
    case inr => exact absurd rfl e
    have KX : K.In s.heap := e0.mod.kin.keeps fun b o e => (e0.bs b o e).1
    have r0 : Vals (pre ++ vs) (pu ++ us) := rp.append r
    have lva := ra.length
    have hl : (pre ++ vs).length = ps.length := by
      rw [List.length_append, lp]
      omega
    have hl1 : (pu ++ us).length = ps.length := by rw [← r0.length]; exact hl
    obtain ⟨D, mv, hmv, rmv, hkD, hks⟩ : ∃ (D : Addr) (mv : List Value), mv.length = mn.length ∧ Vals (mn.map (·.2)) mv ∧ (mn ≠ [] → kV = .ref D) ∧ ∀ q ∈ (mn.map (·.1)).zip mv, PySem.W.nsIn K D q.1 = some (some q.2) := by
      by_cases hm : mn = []
      · subst hm
        exact ⟨0, [], rfl, .nil, fun z => absurd rfl z, fun q hq => by simp at hq⟩
      · rcases hK with e | ⟨D, e, hq⟩
        · subst e
          cases hmn : mn with
          | nil => exact absurd hmn hm
          | cons q l => exact absurd (hms q (by rw [hmn]; exact List.mem_cons_self)) (by simp)
        · obtain ⟨mv, a, b, c⟩ := kwd_vals (ms := mn) fun q hm => hq q (hms q hm)
          exact ⟨D, mv, a, b, fun _ => e, c⟩
    have e2 := hb D kV doc pm an cdv ct (pu ++ us) ks mv hl1 (by rw [← rz.length, lz]) hmv hkD
    refine (KwChain.looks (M := model P w) KX hks e2).here ?_
    have lx : ((pre ++ vs) ++ g zs (mn.map (·.2))).length = (ps ++ ms).length := by
      have h1 := hl
      have h2 := hgl (mz := mn.map (·.2)) lz (by simp)
      simp only [List.length_append] at h1 ⊢
      omega
    have zq := q s H ((pre ++ vs) ++ g zs (mn.map (·.2))) ((pu ++ us) ++ g ks mv) e0 Un.refl rfl (fun _ _ z => z) (r0.append (hg rz rmv)) lx ⟨W, vs ++ g zs (mn.map (·.2)), by rw [List.append_assoc], lx, Le.refl _, rfl, ss, ra.append (hgD rz' (hmD W))⟩
    rw [List.zip_append hl1.symm] at zq
    exact zq
  · cases h
end
/-- the keyword-only default x of the def at ad, if it is an object -/
def kwAd (ad : PySem.W.Frag → Addr) (x : Str) (K : PySem.W.Frag) : Addr := match K.lookup (ad K) with
  | some ⟨_, _, .func fd, _⟩ => (match fd.kwdefaults with
    | .ref D => (match PySem.W.nsIn K D x with
      | some (some (.ref a)) => a
      | _ => 0)
    | _ => 0)
  | _ => 0
def kt0B (K : PySem.W.Frag) (a : Addr) : Bool := match K.lookup a with
  | some ⟨c, _, .seq its _, _⟩ => decide (c = .type "tuple") && decide (its.size = 0)
  | _ => false
theorem kt0_ok {K : PySem.W.Frag} {a : Addr} (h : kt0B K a = true) (G : Hp) : SqT K G a [] := by
  unfold kt0B at h
  split at h
  · rename_i c od its n osl e
    rw [Bool.and_eq_true, decide_eq_true_eq, decide_eq_true_eq] at h
    refine .inr ⟨_, its, n, e, h.1, rfl, by omega, ?_⟩
    have : its.toList = [] := by
      rw [← List.length_eq_zero_iff]
      simpa using h.2
    rw [this]
    exact .nil
  · cases h
end F

/-! for over a list that may change: read anew at each turn -/
namespace F
open PySem L2 Evl
def forI (body : D → Loc → Cells → SO) (n : Nat) : Nat → Nat → Loc → Cells → SO
  | 0, _, _, _ => .no
  | f + 1, i, l, cs => match celL cs n with
    | some xs => match xs[i]? with
      | some d => match body d l cs with
        | .go (.nx l') cs' => forI body n f (i + 1) l' cs'
        | .go (.ct l') cs' => forI body n f (i + 1) l' cs'
        | .go (.bk l') cs' => .go (.nx l') cs'
        | r => r
      | none => .go (.nx l) cs
    | none => .no
def forD (g : XG) (b : XS) (d : D) : Loc → Cells → SO := fun l cs => match d with
  | .cel n => match celL cs n with
    | some xs => forI (turn g b) n (xs.length + 1) 0 l cs
    | none => .no
  | d => match frzL d with
    | some ds => forL (turn g b) ds l cs
    | none => .no
def sForD (fe : XE) (g : XG) (b : XS) : XS := fun l cs => onE (fe l) l cs fun d cs' => forD g b d l cs'
section
variable {X : Cx} {z : ZT} {tg iter : Expr} {body : List Stmt} {fe : XE} {g : XG} {b : XS} {pos : Pos} {ts : List Nat} {B W W1 : Wd} {Er : Exn → Loc → Cells → Prop} {D1 : Ends} {σ : L2.St} {H1 : Hp} {cs1 : Cells} {l : Loc} {tg' : TG} {tb' : TS}
/-- the loop's promise -/
abbrev Goes (X : Cx) (z : ZT) (B : Wd) (ts : List Nat) (g : XG) (b : XS) (Er : Exn → Loc → Cells → Prop) (D1 : Ends) (σ : L2.St) (J : It) (H1 : Hp) : Prop :=
  ∃ I : Nat → Nat → L2.St → Hp → Prop, (∃ m, I 0 m σ H1) ∧ ∀ i m σ H, I i m σ H →
  (J.stop i H ∧ D1.nx σ H) ∨ (J.go i H ∧ ∃ N : L2.St → Hp → Prop, (∀ σ' H', N σ' H' → ∃ m', m' < m ∧ I (i + 1) m' σ' H') ∧ ∀ x H', J.yld i H x H' → tG (sx X) z B ts g x σ H' fun σ2 H2 => tS (sx X) z B b Er { D1 with nx := N, ct := N, bk := D1.nx } σ2 H2)
theorem goes_w {J : It} {ds : List D} (le1 : Le W W1) (o1 : W1.O = W.O) (s1 : S (sx X) W1 cs1 H1) (lr : LR (sx X) z B W l σ) (wk : Walks (sx X) W1 J ds) (w1 : wpS (forL (turn g b) ds l cs1) (post (sx X) z B W Er D1)) : Goes X z B ts g b Er D1 σ J H1 := by
  refine ⟨fun i m σ H => ∃ W2 cs2 l2, Le W1 W2 ∧ S (sx X) W2 cs2 H ∧ LR (sx X) z B W2 l2 σ ∧ m = ds.length - i ∧ i ≤ ds.length ∧ wpS (forL (turn g b) (ds.drop i) l2 cs2) (post (sx X) z B W Er D1),
    ⟨_, W1, cs1, l, Le.refl _, s1, lr.mono le1 o1, rfl, Nat.zero_le _, w1⟩, ?_⟩
  rintro i m σ H ⟨W2, cs2, l2, le2, s2, lr2, rfl, hi, w2⟩
  obtain ⟨go, stop⟩ := wk W2 cs2 H le2 s2 i
  by_cases hlt : i < ds.length
  · refine .inr ?_
    have hd : ds[i]? = some ds[i] := List.getElem?_eq_getElem hlt
    obtain ⟨g1, y1⟩ := go _ hd
    rw [List.drop_eq_getElem_cons hlt] at w2
    refine ⟨g1, fun σ' H' => ∃ W3 cs3 l3, Le W1 W3 ∧ S (sx X) W3 cs3 H' ∧ LR (sx X) z B W3 l3 σ' ∧ wpS (forL (turn g b) (ds.drop (i + 1)) l3 cs3) (post (sx X) z B W Er D1), fun σ' H' ⟨W3, cs3, l3, le3, s3, lr3, w3⟩ => ⟨ds.length - (i + 1), by omega, W3, cs3, l3, le3, s3, lr3, rfl, hlt, w3⟩, fun x H' y => ?_⟩
    obtain ⟨W3, le3, o3, s3, r3⟩ := y1 x H' y
    have lr3 := lr2.mono le3 o3
    unfold forL turn at w2
    cases q : g ds[i] l2 cs2 with
    | none => rw [q] at w2; exact w2.elim
    | some l' =>
      rw [q] at w2
      dsimp only at w2
      refine ⟨W3, cs2, l2, _, l', s3, lr3, r3, q, fun σ' lr' _ => ⟨W3, cs2, l', s3, lr', ?_⟩⟩
      have le13 := le2.trans le3
      cases qb : b l' cs2 with
      | no => rw [qb] at w2; exact w2.elim
      | go fl cs' =>
        rw [qb] at w2
        cases fl with
        | nx l4 => exact fun W4 σ4 H4 le4 s4 lr4 => ⟨W4, cs', l4, le13.trans le4, s4, lr4, w2⟩
        | ct l4 => exact fun W4 σ4 H4 le4 s4 lr4 => ⟨W4, cs', l4, le13.trans le4, s4, lr4, w2⟩
        | bk l4 => exact fun W4 σ4 H4 le4 s4 lr4 => w2 W4 σ4 H4 ((le1.trans le13).trans le4) s4 lr4
        | ret d4 => exact fun W4 v4 H4 le4 s4 o4 r4 => w2 W4 v4 H4 ((le1.trans le13).trans le4) s4 o4 r4
        | ex x4 l4 => exact w2
  · have e : i = ds.length := by omega
    subst e
    rw [List.drop_length] at w2
    exact .inl ⟨stop (Nat.le_refl _), w2 W2 σ H (le1.trans le2) s2 lr2⟩
theorem goes_c {n f : Nat} {a : Addr} (le1 : Le W W1) (o1 : W1.O = W.O) (s1 : S (sx X) W1 cs1 H1) (lr : LR (sx X) z B W l σ) (ha : W1.i[n]? = some a) (w1 : wpS (forI (turn g b) n f 0 l cs1) (post (sx X) z B W Er D1)) : Goes X z B ts g b Er D1 σ (Itl X.K a) H1 := by
  refine ⟨fun i m σ H => ∃ W2 cs2 l2, Le W1 W2 ∧ S (sx X) W2 cs2 H ∧ LR (sx X) z B W2 l2 σ ∧ wpS (forI (turn g b) n m i l2 cs2) (post (sx X) z B W Er D1),
    ⟨f, W1, cs1, l, Le.refl _, s1, lr.mono le1 o1, w1⟩, ?_⟩
  rintro i m σ H ⟨W2, cs2, l2, le2, s2, lr2, w2⟩
  cases m with
  | zero => exact w2.elim
  | succ m =>
    unfold forI at w2
    cases qc : celL cs2 n with
    | none => rw [qc] at w2; exact w2.elim
    | some ds =>
      rw [qc] at w2
      dsimp only at w2
      obtain ⟨xs, hH, ra, _⟩ := celL_ok s2 (le2.i n a ha) qc
      have hq : SqL X.K H a xs := sq_of hH
      cases qi : ds[i]? with
      | none =>
        rw [qi] at w2
        refine .inl ⟨⟨xs, hq, ?_⟩, w2 W2 σ H (le1.trans le2) s2 lr2⟩
        rw [ra.length]
        exact List.getElem?_eq_none_iff.mp qi
      | some d =>
        rw [qi] at w2
        dsimp only at w2
        obtain ⟨v, hv, rv⟩ := ra.get qi
        refine .inr ⟨⟨xs, v, hq, hv⟩, fun σ' H' => ∃ W3 cs3 l3, Le W1 W3 ∧ S (sx X) W3 cs3 H' ∧ LR (sx X) z B W3 l3 σ' ∧ wpS (forI (turn g b) n m (i + 1) l3 cs3) (post (sx X) z B W Er D1), fun σ' H' h => ⟨m, Nat.lt_succ_self m, h⟩, fun x H' y => ?_⟩
        obtain ⟨e, y⟩ := y
        subst e
        have hx := y xs hq
        rw [hv] at hx
        cases hx
        unfold turn at w2
        cases q : g d l2 cs2 with
        | none => rw [q] at w2; exact w2.elim
        | some l' =>
          rw [q] at w2
          dsimp only at w2
          refine ⟨W2, cs2, l2, _, l', s2, lr2, rv, q, fun σ' lr' _ => ⟨W2, cs2, l', s2, lr', ?_⟩⟩
          cases qb : b l' cs2 with
          | no => rw [qb] at w2; exact w2.elim
          | go fl cs' =>
            rw [qb] at w2
            cases fl with
            | nx l4 => exact fun W4 σ4 H4 le4 s4 lr4 => ⟨W4, cs', l4, le2.trans le4, s4, lr4, w2⟩
            | ct l4 => exact fun W4 σ4 H4 le4 s4 lr4 => ⟨W4, cs', l4, le2.trans le4, s4, lr4, w2⟩
            | bk l4 => exact fun W4 σ4 H4 le4 s4 lr4 => w2 W4 σ4 H4 ((le1.trans le2).trans le4) s4 lr4
            | ret d4 => exact fun W4 v4 H4 le4 s4 o4 r4 => w2 W4 v4 H4 ((le1.trans le2).trans le4) s4 o4 r4
            | ex x4 l4 => exact w2
theorem js_forD (hp : PassesOwn (model X.prog X.w) X.A X.env X.xe) (hc : X.calm = true) (he : JE X z iter fe) (hg : JG X z tg ts g) (hb : JSs X z body b) (hs : ∀ x, foldedSetIterable iter X.env x = pure x := by intro _; rfl) :
    JS X z (.For tg iter body [] pos) (sForD fe g b) := ⟨fun B Er tk => ps_imp (ps_for hp hc (E.pi_sq (he.run B Er tk)) (hg.run B) (hb.run B Er tk) hs) fun D1 σ H ⟨W, cs, l, s, lr, w⟩ => by
  refine ⟨W, cs, l, s, lr, wp_imp (wpS_onE.mp w) (fun d cs1 w1 W1 v1 H1 le1 o1 s1 r1 => ?_) fun _ _ h => h⟩
  cases r1 with
  | tup h1 r1 => exact ⟨_, rfl, .inr ⟨⟨_, ex_t s1.g h1⟩, goes_w le1 o1 s1 lr (walks_t h1 r1) w1⟩⟩
  | lst h1 r1 => exact ⟨_, rfl, .inl ⟨⟨_, sq_of (s1.g _ _ h1)⟩, goes_w le1 o1 s1 lr (walks_l (sq_of h1) r1) w1⟩⟩
  | wls h1 r1 => exact ⟨_, rfl, .inl ⟨⟨_, ex_l s1.g h1⟩, goes_w le1 o1 s1 lr (walks_l h1 r1) w1⟩⟩
  | @cel n a hi =>
    have w1' : wpS (match celL cs1 n with | some xs => forI (turn g b) n (xs.length + 1) 0 l cs1 | none => SO.no) (post (sx X) z B W Er D1) := w1
    cases q : celL cs1 n with
    | none => rw [q] at w1'; exact w1'.elim
    | some xs =>
      rw [q] at w1'
      obtain ⟨us, hH, ra, _⟩ := celL_ok s1 hi q
      exact ⟨_, rfl, .inl ⟨⟨_, sq_of hH⟩, goes_c le1 o1 s1 lr hi w1'⟩⟩
  | _ => exact w1.elim⟩
end
def gClr (_ ds : List D) : Option (List D) := match ds with
  | [] => some []
  | _ => none
theorem mut_clr {Z : Sx} : MutR Z rClear gClr := fun W a us vs xs ds ys H Q h ru rv e k => by
  unfold gClr at e
  split at e
  · cases e
    cases rv
    exact ⟨a, us, rfl, rfl, h, k _ .nil⟩
  · cases e
end F

/-! x = list(e), owned; o.clear() -/
namespace F
open PySem L2 Evl
section
variable {X : Cx} {z : ZT} {o e : Expr} {fo fa : XE} {r : V → List V → Hp → VK → Prop} {g : List D → List D → Option (List D)} {st : Stmt} {i : Nat} {p pos : Pos}
theorem js_ownA (hp : ∀ {t : TE}, PE X (.Call (.Name "list" p) [e] [] pos) t → PS X st (tAsg t (gName i))) (hg : Gl X "list") (hm : X.mg "list" = none) (h : JE X z e fa) (hs : starEach [e] X.env = [(false, eval e X.env)] := by rfl) : JS X z st (sOwnA i fa) :=
  ⟨fun B Er tk => ps_imp (hp (pe_callTy call_list_of hg hm (by decide +kernel) ((ja_cons h ja_nil hs).run B Er tk) (by decide) (by decide) hs rfl)) fun D σ H ⟨W, cs, l, s, lr, w⟩ => by
  refine ⟨W, cs, l, s, lr, wp_bd.mpr (wp_imp (wpS_onE.mp w) (fun d cs1 w1 => ?_) fun _ _ h => h)⟩
  obtain ⟨xs, hx, w2⟩ := wp_rd.mp (wpS_onE.mp w1)
  intro W1 vs H1 le1 o1 s1 r1
  cases r1 with
  | cons r1 r2 =>
    cases r2
    obtain ⟨a, us, rfl, hq, ra⟩ := seq_ok s1 r1 hx
    exact ⟨a, us, rfl, hq, fun q hp => w2 _ _ _ (le1.trans (Le.own W1 _)) (s1.ownNew hp) ((lr.mono le1 o1).ownNew s1 hp ⟨us, rfl, ra⟩)⟩⟩
theorem je_mut0 (hp : ∀ {to : TE}, PE X o to → PE X e (tBM0 X.K "list" r to)) (hr : MutR (sx X) r g) (ho : JE X z o fo) : JE X z e (xMut g fo aNil) := ⟨fun B Er tk => pe_imp (hp (ho.run B Er tk)) fun σ H Q ⟨W, cs, l, s, lr, w⟩ => by
  refine ⟨W, cs, l, s, lr, wp_imp (wp_bd.mp w) (fun o cs1 w1 W1 v1 H1 le1 o1 s1 r1 => ?_) fun _ _ h => h⟩
  obtain ⟨_, hk, w1⟩ := wp_rd.mp (wp_bd.mp w1)
  cases r1 with
  | @cel n a hi =>
    have hk' : ((celL cs1 n).map fun _ => ()) = some () := hk
    cases q : celL cs1 n with
    | none => rw [q] at hk'; cases hk'
    | some xs =>
      obtain ⟨us, h1, ra, g0, hc⟩ := celL_ok s1 hi q
      have w2 := wp_bd.mp w1
      have w2 := wp_rt.mp (show wp (rt ([] : List D)) cs1 _ _ from w2)
      obtain ⟨ys, ts, qy, qt, w3⟩ := wp_updC w2
      rw [q] at qy
      cases qy
      exact ⟨Or.inl ⟨rfl, us, sq_of h1⟩, hr W1 a us [] xs [] ts H1 Q h1 ra .nil qt fun ws rw' => w3 W1 .non _ le1 o1 (s1.put hi hc (fun z => nomatch z) ⟨ws, rfl, rw'⟩) .non⟩
  | _ => cases hk⟩
end
end F

/-! a, b, *c = t -/
namespace L2
open PySem PySem.Spec PyProof.Rows
section
variable {prog : Program} {w : World} {A : Around} {E : Value → Shared → Prop} {s : Shared}
theorem tupFrom (hh : A.handled = none) (I ax : Addr) (hne : ax ≠ I) (items : Array Value) (k : Nat) :
    Walks prog w A I [I, ax] [I] (items.size - k) (fun i v => items[k + i]? = some v) (fun i h => IsTupIter h I ax (k + i) ∧ IsTup h ax items) where
  sub := fun b hb => by simp at hb; simp [hb]
  frame := fun i h h' st hk => by
    obtain ⟨⟨o, ho, r⟩, ⟨o2, ho2, r2⟩⟩ := st
    exact ⟨⟨o, hk I (by simp) o ho, r⟩, ⟨o2, hk ax (by simp) o2 ho2, r2⟩⟩
  item := fun i s Q E hi st hQ => by
    have hlt : k + i < items.size := by omega
    refine next_tuple_item st.1 st.2 (x := items[k + i]) (by simp [hlt]) fun h' hit' hs' => ?_
    exact hQ _ h' s.toks (by simp [hlt]) ⟨hit', st.2.extBut hs'.extBut hne⟩ fun b o hb e => hs'.extBut b o (fun h => hb (by simp [h])) e
  done := fun s Q E st hQ => next_tuple_end hh st.1 st.2 (by simp; omega) fun h' he' => hQ h' s.toks fun b o hb e => he' b o (fun h => hb (by simp [h])) e
  self := fun _ _ _ _ st hQ => wpAny_pyIter_tupleiter st.1 hQ
theorem unpackItems_star {t : Addr} {items : Array Value} {i : Nat} {Q : List Value → Shared → Prop} (hh : A.handled = none) (ht : IsTup s.heap t items) (hi : i ≤ items.size) (hz : items.size ≤ sizeLine)
    (hQ : ∀ (h' : Heap) (tk : Nat), s.toks ≤ tk → (∀ b o, s.heap.get? b = some o → h'.get? b = some o) → Q (items.toList.take i ++ [.ref h'.objs.size]) { s with heap := h'.push { cls := .type "list", data := .seq (items.toList.drop i).toArray }, toks := tk }) :
    wpAny (model prog w) A (unpackItems (.ref t) (i + 1) (some i)) Q E s := by
  have hlt : t ≠ s.heap.objs.size := by obtain ⟨o, ho, _⟩ := ht; exact Nat.ne_of_lt (Heap.lt_size ho)
  unfold unpackItems
  refine wpAny_bind ?_
  unfold notIterableAtAll
  refine wpAny_bind (wpAny_specialOf ht.typeIs slot_tuple_iter.lookup ?_)
  refine wpAny_pure ?_
  simp only [Bool.false_eq_true, if_false]
  refine wpAny_bind (wpAny_holding (iter_tuple ht ?_))
  refine wpAny_bind (wpAny_holding (draw_tuple hlt i 0 _ _ ⟨_, Heap.get?_push_size _ rfl, rfl, rfl⟩ (ht.push _) (by omega) fun h₁ hit₁ hs₁ => ?_))
  have hall : (List.take i (List.drop 0 items.toList)).length = i := by simp; omega
  rw [if_neg (by omega)]
  have ht₁ : IsTup h₁ t items := (ht.push _).extBut hs₁.extBut hlt
  rw [Nat.zero_add] at hit₁
  refine wpAny_bind (wpAny_holding (wpAny_collect_iter (T := "tuple_iterator") (.inr (.inr (.inr rfl))) (tupFrom (A := A.in1) hh _ t hlt items i).toS (fun j s' st => st.1.typeIs) ⟨hit₁, ht₁⟩ ?_ (by simp) (fun s' acc mv it => ?_) (by omega)))
  · intro b hb
    simp only [List.mem_cons, List.not_mem_nil, or_false] at hb
    rcases hb with rfl | rfl
    · obtain ⟨o, ho, _⟩ := hit₁
      exact Heap.lt_size ho
    · obtain ⟨o, ho, _⟩ := ht₁
      exact Heap.lt_size ho
  · have ea : acc.toList = items.toList.drop i := by
      apply List.ext_getElem?
      intro j
      rw [List.getElem?_drop]
      by_cases c : j < items.size - i
      · have c2 : j < acc.size := by rw [it.1]; exact c
        have h1 := it.2 j acc[j] (by simp [c2])
        have h2 : acc.toList[j]? = some acc[j] := by simp [c2]
        rw [h2]
        have h3 : items.toList[i + j]? = items[i + j]? := by simp
        rw [h3, h1]
      · rw [List.getElem?_eq_none (by rw [Array.length_toList, it.1]; omega), List.getElem?_eq_none (by simp; omega)]
    rw [if_neg (by omega)]
    have e0 : i + 1 - 1 - i = 0 := by omega
    rw [e0, Nat.sub_zero, List.take_length, List.drop_length]
    obtain ⟨hp, g, d, tk, os⟩ := s'
    obtain ⟨m1, m2, m3, m4, m5⟩ := mv
    cases m2
    cases m3
    cases m4
    refine wpAny_bind (wpAny_newList ?_ (by rw [ea, List.length_drop, Array.length_toList]; omega))
    refine wpAny_pure ?_
    rw [ea, List.append_nil, List.drop_zero]
    refine hQ hp tk m5 fun b o e => ?_
    have hb : b ≠ s.heap.objs.size := Nat.ne_of_lt (Heap.lt_size e)
    exact m1 b o (by simpa using hb) (hs₁.extBut b o hb (Heap.get?_push_of_some _ e))
end
end L2

/-! a, b, *c = t: the rule -/
namespace L2
open PySem PySem.Spec PyProof.Rows
section
variable {X : Cx} {pos : Pos}
theorem pgs_star {e : Expr} {es : List Expr} {p : Pos} {t : TG} {u : TGs} (h1 : PG X e t) (h2 : PGs X es u)
    (hs : (assignEach (.Starred e p :: es) X.env).map (·.2) = assign e X.env :: (assignEach es X.env).map (·.2) := by rfl) : PGs X (.Starred e p :: es) (gCons t u) := by
  refine ⟨fun pins s σ H vs us Q I r h => ?_⟩
  obtain ⟨v, vr, e1, h⟩ := h
  subst e1
  cases r with
  | cons r rr =>
    rw [hs]
    refine assignInOrder_cons (thn (h1.run pins s σ H _ _ _ I r h) fun _ s1 ⟨σ1, H1, I1, q1⟩ => ?_)
    exact h2.run pins s1 σ1 H1 _ _ Q I1 rr q1
def gStarL (K : PySem.W.Frag) (n : Nat) (t : TGs) : TG := fun v σ H Q => ∃ a xs, v = .ref a ∧ SqT K H a xs ∧ n ≤ xs.length ∧ ∀ q, H q = none → t (xs.take n ++ [.ref q]) σ (upd H q (.lst (xs.drop n))) Q
theorem pg_star {es : List Expr} {k : Nat} {t : TGs} {n : Nat} (hc : X.calm = true) (h : PGs X es t)
    (hn : (assignEach es X.env).length = n + 1 := by rfl) (hst : (assignEach es X.env).findIdx? (·.1) = some n := by rfl) : PG X (.Tuple es k pos) (gStarL X.K n t) := by
  refine ⟨fun pins s σ H v u Q I r hw => ?_⟩
  obtain ⟨a, xs, e1, hq, hl, hw⟩ := hw
  subst e1
  cases r
  obtain ⟨its, rv, ht, hz⟩ := I.tuple hq
  have lx := rv.length
  rw [assign_Tuple]
  refine wpAny_bind (wpAny_standAt ?_)
  unfold unpack
  rw [hn, hst]
  refine wpAny_bind (wpAny_holding (unpackItems_star (I.ok.hd hc) ht (by simp; omega) (by simp; omega) fun h' tk htk hk => ?_))
  have I1 : Inv X pins σ H { s with heap := h', toks := tk } := I.kept (t' := tk) hk
  have I2 : Inv X pins σ (upd H h'.objs.size (.lst (xs.drop n))) { s with heap := h'.push { cls := .type "list", data := .seq (its.toArray.toList.drop n).toArray }, toks := tk } :=
    I1.laid (t' := tk) (o := .lst (xs.drop n)) (fun b ob q => Heap.get?_push_of_some _ q) (Nat.le_refl _) ⟨by rw [List.length_drop]; omega, _, 0, by simpa using rv.drop n, Heap.get?_push_size _ rfl⟩
  refine h.run pins _ σ _ (xs.take n ++ [.ref h'.objs.size]) _ Q I2 ?_ (hw _ (I1.hok.fresh (Nat.le_refl _)))
  have r2 : Vals (xs.take n ++ [V.ref h'.objs.size]) (its.take n ++ [Value.ref h'.objs.size]) := (rv.take n).append (.cons (show RelV (V.ref h'.objs.size) (Value.ref h'.objs.size) from rfl) .nil)
  simpa using r2
end
end L2
namespace F
open PySem L2 Evl
def gS (n : Nat) (g : XGs) : XG := fun d l cs => match d with
  | .tup ds => if n ≤ ds.length then g (ds.take n ++ [.lst (ds.drop n)]) l cs else none
  | _ => none
section
variable {X : Cx} {z : ZT} {tg e : Expr} {tgs : List Expr} {g : XG} {gs : XGs} {fe : XE} {pos p : Pos}
theorem jgs_star {ts us : List Nat} (h1 : JG X z tg ts g) (h2 : JGs X z tgs us gs) (hs : (assignEach (.Starred tg p :: tgs) X.env).map (·.2) = assign tg X.env :: (assignEach tgs X.env).map (·.2) := by rfl) : JGs X z (.Starred tg p :: tgs) (ts ++ us) (gsCons g gs) := ⟨fun B => pgs_im (pgs_star (h1.run B) (h2.run B) hs) fun vs σ H R ⟨W, cs, l, ds, l', s, lr, r, e, k⟩ => by
  cases r with
  | nil => cases e
  | cons r1 r2 =>
    unfold gsCons at e
    dsimp only at e
    split at e
    · rename_i l1 q
      exact ⟨_, _, rfl, W, cs, l, _, l1, s, lr, r1, q, fun σ1 lr1 o1 => ⟨W, cs, l1, _, l', s, lr1, r2, e, fun σ2 lr2 o2 => k σ2 lr2 (o1.trans o2)⟩⟩
    · cases e⟩
theorem js_asgS {n kk : Nat} {tpos : Pos} {ts : List Nat} (hc : X.calm = true) (he : JE X z e fe) (hg : JGs X z tgs ts gs) (hn : (assignEach tgs X.env).length = n + 1 := by rfl) (hst : (assignEach tgs X.env).findIdx? (·.1) = some n := by rfl)
    (hs : swapsWithSole [.Tuple tgs kk tpos] e pos.line X.env = pure false := by rfl) (hw : swappedStores [.Tuple tgs kk tpos] e X.env = pure none := by rfl)
    (h1 : (assignEach [.Tuple tgs kk tpos] X.env).map (·.2) = [assign (.Tuple tgs kk tpos) X.env] := by rfl) : JS X z (.Assign [.Tuple tgs kk tpos] e pos) (sAsg fe (gS n gs)) := ⟨fun B E tk => ps_imp (ps_asg (he.run B E tk) (pg_star hc (hg.run B) hn hst) hs hw h1) fun D σ H ⟨W, cs, l, s, lr, w⟩ => by
  refine ⟨W, cs, l, s, lr, wp_imp (wpS_onE.mp w) (fun d cs1 w1 W1 v1 H1 le1 o1 s1 r1 => ?_) fun _ _ h => h⟩
  split at w1
  · rename_i l' e'
    unfold gS at e'
    split at e'
    · rename_i ds
      split at e'
      · rename_i hl
        cases r1 with
        | @tup a xs ds' h1 r1 =>
          refine ⟨_, _, rfl, ex_t s1.g h1, by rw [r1.length]; exact hl, fun q hq => ?_⟩
          have le2 := s1.leNew (o := .lst (xs.drop n)) hq
          exact ⟨_, cs1, l, _, l', s1.new hq, (lr.mono le1 o1).mono le2 rfl, ((r1.take n).mono le2).append (.cons (.lst upd_same ((r1.drop n).mono le2)) .nil), e', fun σ' lr' _ => w1 _ σ' _ (le1.trans le2) (s1.new hq) lr'⟩
      · cases e'
    · cases e'
  · exact w1.elim⟩
end
end F

/-! len(o) by an own __len__ -/
namespace F
open PySem L2 Evl PyProof.Rows
/-- own special methods: class, the method as a function -/
structure SpOk (P : Program) (w : World) (K : PySem.W.Frag) (mg : Str → Option Value) (base : Heap) (k : Nat) (m : Str) (t : EqT) : Prop where
  at_ : ∀ q ∈ t, ∃ Cl g, mg q.1 = some (.ref Cl) ∧ PySem.W.findIn K (.ref Cl) m = some (some (.ref g)) ∧ PySem.W.isFn K (.ref g) = true ∧ FnG P w K mg base k g [] q.2
theorem SpOk.get {P : Program} {w : World} {K : PySem.W.Frag} {mg : Str → Option Value} {base : Heap} {k : Nat} {m : Str} {t : EqT} (o : SpOk P w K mg base k m t) {c : Str} {Fe : List D → List D → EM D} {Cl : Addr} (h : t.at_ c = some Fe) (hm : mg c = some (.ref Cl)) :
    ∃ g, PySem.W.findIn K (.ref Cl) m = some (some (.ref g)) ∧ PySem.W.isFn K (.ref g) = true ∧ FnG P w K mg base k g [] Fe := by
  unfold EqT.at_ at h
  cases q : t.find? fun q => decide (q.1 = c) with
  | none => rw [q] at h; cases h
  | some r =>
    rw [q] at h
    cases h
    have hr := List.find?_some q
    obtain ⟨Cl', g, h4, h5, h6, h7⟩ := o.at_ r (List.mem_of_find?_eq_some q)
    rw [of_decide_eq_true hr, hm] at h4
    cases h4
    exact ⟨g, h5, h6, h7⟩
def asN (d : D) : EM D := match d with
  | .int n => if 0 ≤ n ∧ n < 1000000000 then rt (.int n) else no
  | _ => no
/-- len(d), d an instance -/
def lenDyn (t : EqT) (d : D) : EM D := fun cs => match insOf cs d with
  | some (c, _) => match t.at_ c with
    | some Fe => bd (nox (Fe [d] [])) asN cs
    | none => .no
  | none => .no
def xLenI (t : EqT) (fa : XE) : XE := fun l => bd (fa l) fun d => nox (lenDyn t d)
section
variable {X : Cx} {k j : Nat} {t : EqT}
def rLenI (Z : Sx) (t : EqT) : List V → Hp → VK → Prop := fun xs H Q => ∃ W cs x d, xs = [x] ∧ S Z W cs H ∧ Rep Z W x d ∧ wp (lenDyn t d) cs (okP Z W Q) fun _ _ => False
theorem cd_lenI (o : SpOk X.prog X.w X.K X.mg X.base k "__len__" t) (hr : RmG (k + 1) X.A) : CallR X (.builtin "len") (rLenI (sx X) t) := by
  intro pins s σ H xs us Q I rv h
  obtain ⟨W, cs, x, d, rfl, ss, rx, w⟩ := h
  cases q : insOf cs d with
  | none =>
    have e1 : lenDyn t d cs = (no : EM D) cs := by unfold lenDyn; rw [q]; rfl
    exact (wp_congr e1 w).elim
  | some cf =>
    obtain ⟨c, fs⟩ := cf
    obtain ⟨a, Cl, dx, vs, rfl, m, ha, rf⟩ := insOf_ok ss rx q
    cases qe : t.at_ c with
    | none =>
      have e1 : lenDyn t d cs = (no : EM D) cs := by unfold lenDyn; rw [q]; dsimp only; rw [qe]; rfl
      exact (wp_congr e1 w).elim
    | some Fe =>
      have e1 : lenDyn t d cs = bd (nox (Fe [d] [])) asN cs := by unfold lenDyn; rw [q]; dsimp only; rw [qe]
      obtain ⟨g, h1, h2, h3⟩ := o.get qe m
      have w1 := wp_congr e1 w
      cases rv with
      | cons r1 r2 =>
        cases r2
        cases r1
        obtain ⟨mA, OM, _⟩ := ins_get I.hok ha
        obtain ⟨od, J, _⟩ := OM.look
        obtain ⟨mm, hF⟩ := I.fr
        refine PySem.W.len_K hF I.ok.mod.kin J h1 h2 ?_
        have hsp : spF (sx X) Fe [.ref a] [] H (fun v H' => ∃ n : Int, v = .int n ∧ (0 ≤ n ∧ n < 1000000000) ∧ Q (.int n) H') (fun _ _ _ => False) := by
          refine ⟨W, cs, [d], [], ss, .cons rx .nil, .nil, wp_imp (wp_nox (wp_bd.mp w1)) (fun d' cs' w2 W' v H' le o s' rv' => ?_) (E := fun _ _ => False) fun _ _ h => h.elim⟩
          cases d' with
          | int n =>
            have w3 : wp (if 0 ≤ n ∧ n < 1000000000 then rt (D.int n) else no) cs' (okP (sx X) W Q) fun _ _ => False := w2
            split at w3
            · rename_i hn
              cases rep_int rv'
              exact ⟨n, rfl, hn, w3 W' _ H' le o s' (.int _)⟩
            · exact w3.elim
          | _ => exact w2.elim
        refine wpAny_call (codeAny_mono (h3 X.A.in1 X.stack s H [.ref a] [.ref a] [] [] _ _ hr.in1 I.env0.in1 (.cons rfl .nil) .nil rfl hsp) fun rr s' hq => ?_)
        cases rr with
        | error e => exact noPass (fun _ _ _ h => h) pins σ H s e s' I hq
        | ok fl =>
          cases fl with
          | ret u =>
            obtain ⟨v, H', I', rv, n, en, hn, qn⟩ := I.after hq
            subst en
            obtain ⟨tk, rfl⟩ := rv
            exact ⟨⟨hn.1, by omega⟩, .int n, H', I'.kept (t' := s'.toks + 1) (fun _ _ e => e), ⟨_, rfl⟩, qn⟩
          | next => exact False.elim hq
          | brk => exact False.elim hq
          | cont => exact False.elim hq
end
section
variable {X : Cx} {z : ZT} {e : Expr} {fa : XE} {k j : Nat} {t : EqT} {p pos : Pos}
theorem je_lenI (o : SpOk X.prog X.w X.K X.mg X.base k "__len__" t) (hr : RmG j X.A) (hk : k + 1 ≤ j) (hg : Gl X "len") (hm : X.mg "len" = none) (h : JE X z e fa) (hs : starEach [e] X.env = [(false, eval e X.env)] := by rfl) : JE X z (.Call (.Name "len" p) [e] [] pos) (xLenI t fa) :=
  ⟨fun B Er tk => pe_imp (pe_callB (cd_lenI o (hr.mono hk)) hg hm (by decide +kernel) ((ja_cons h ja_nil hs).run B Er tk) (by decide) (by decide) hs rfl) fun σ H Q ⟨W, cs, l, s, lr, w⟩ => by
  refine ⟨W, cs, l, s, lr, wp_bd.mpr (wp_imp (wp_bd.mp w) (fun d cs1 w1 => ?_) fun _ _ h => h)⟩
  intro W1 vs H1 le1 o1 s1 r1
  cases r1 with
  | cons r1 r2 =>
    cases r2
    exact ⟨W1, cs1, _, d, rfl, s1, r1, wp_imp (wp_nox w1) (fun d' cs' w2 W' v H' le o s' rv => w2 W' v H' (le1.trans le) (o.trans o1) s' rv) fun _ _ h => h⟩⟩
end
end F

/-! x in o by an own __contains__ -/
namespace F
open PySem L2 Evl PyProof.Rows
def inDyn (t : EqT) (neg : Bool) (x y : D) : EM D := fun cs => match insOf cs y with
  | some (c, _) => match t.at_ c with
    | some Fe => negB neg (Fe [y, x] []) cs
    | none => .no
  | none => .no
def xInI (t : EqT) (neg : Bool) (fa fb : XE) : XE := fun l => bd (fa l) fun x => bd (fb l) fun y => nox (inDyn t neg x y)
section
variable {X : Cx} {k j : Nat} {t : EqT} {neg : Bool}
def rInI (Z : Sx) (t : EqT) (neg : Bool) : R2 := fun x y H Q => ∃ W cs d e, S Z W cs H ∧ Rep Z W x d ∧ Rep Z W y e ∧ wp (inDyn t neg d e) cs (okP Z W Q) fun _ _ => False
theorem inDyn_ok (o : SpOk X.prog X.w X.K X.mg X.base k "__contains__" t) {W : Wd} {cs : Cells} {H : Hp} {y : V} {d e : D} {Q : VK} (ss : S (sx X) W cs H) (ry : Rep (sx X) W y e) (w : wp (inDyn t neg d e) cs (okP (sx X) W Q) fun _ _ => False) :
    ∃ a Cl dx fs g Fe, y = .ref a ∧ H a = some (.ins Cl dx fs) ∧ PySem.W.findIn X.K (.ref Cl) "__contains__" = some (some (.ref g)) ∧ PySem.W.isFn X.K (.ref g) = true ∧ FnG X.prog X.w X.K X.mg X.base k g [] Fe ∧ wp (negB neg (Fe [e, d] [])) cs (okP (sx X) W Q) fun _ _ => False := by
  cases q : insOf cs e with
  | none =>
    have e1 : inDyn t neg d e cs = (no : EM D) cs := by unfold inDyn; rw [q]; rfl
    exact (wp_congr e1 w).elim
  | some cf =>
    obtain ⟨c, fs⟩ := cf
    obtain ⟨a, Cl, dx, vs, rfl, m, ha, rf⟩ := insOf_ok ss ry q
    cases qe : t.at_ c with
    | none =>
      have e1 : inDyn t neg d e cs = (no : EM D) cs := by unfold inDyn; rw [q]; dsimp only; rw [qe]; rfl
      exact (wp_congr e1 w).elim
    | some Fe =>
      have e1 : inDyn t neg d e cs = negB neg (Fe [e, d] []) cs := by unfold inDyn; rw [q]; dsimp only; rw [qe]
      obtain ⟨g, h1, h2, h3⟩ := o.get qe m
      exact ⟨a, Cl, dx, vs, g, Fe, rfl, ha, h1, h2, h3, wp_congr e1 w⟩
theorem od_inI (o : SpOk X.prog X.w X.K X.mg X.base k "__contains__" t) (hr : RmG k X.A) : OpR X (compareOp .In) (rInI (sx X) t false) := by
  intro pins s σ H x y u v Q I rx ry h
  obtain ⟨W, cs, d, e, ss, rx', ry', w⟩ := h
  obtain ⟨a, Cl, dx, fs, g, Fe, rfl, ha, h1, h2, h3, w1⟩ := inDyn_ok o ss ry' w
  cases (show v = Value.ref a from ry)
  obtain ⟨mA, OM, _⟩ := ins_get I.hok ha
  obtain ⟨od, J, _⟩ := OM.look
  obtain ⟨mm, hF⟩ := I.fr
  refine PySem.W.in_K hF I.ok.mod.kin J h1 h2 ?_
  refine wpAny_mono (run_eq (us := [.ref a, u]) (vs := [.ref a, x]) (ds := [e, d]) h3 hr I.env0 I (.cons rfl (.cons rx .nil)) ss (.cons ry' (.cons rx' .nil)) w1) (fun r s' ⟨b, hb, H', I', q⟩ => ?_) fun _ _ x => x
  subst hb
  have e : (b != false) = b := by cases b <;> rfl
  rw [e] at q
  exact wpAny_truthy_bool ⟨.bl b, H', I', rfl, q⟩
theorem od_notInI (o : SpOk X.prog X.w X.K X.mg X.base k "__contains__" t) (hr : RmG k X.A) : OpR X (compareOp .NotIn) (rInI (sx X) t true) := by
  intro pins s σ H x y u v Q I rx ry h
  obtain ⟨W, cs, d, e, ss, rx', ry', w⟩ := h
  obtain ⟨a, Cl, dx, fs, g, Fe, rfl, ha, h1, h2, h3, w1⟩ := inDyn_ok o ss ry' w
  cases (show v = Value.ref a from ry)
  obtain ⟨mA, OM, _⟩ := ins_get I.hok ha
  obtain ⟨od, J, _⟩ := OM.look
  obtain ⟨mm, hF⟩ := I.fr
  refine PySem.W.notIn_K hF I.ok.mod.kin J h1 h2 ?_
  refine wpAny_mono (run_eq (us := [.ref a, u]) (vs := [.ref a, x]) (ds := [e, d]) h3 hr I.env0 I (.cons rfl (.cons rx .nil)) ss (.cons ry' (.cons rx' .nil)) w1) (fun r s' ⟨b, hb, H', I', q⟩ => ?_) fun _ _ x => x
  subst hb
  have e : (b != true) = !b := by cases b <;> rfl
  rw [e] at q
  exact wpAny_truthy_bool ⟨.bl (!b), H', I', rfl, q⟩
end
section
variable {X : Cx} {z : ZT} {e a b : Expr} {fa fb : XE} {t : EqT} {neg : Bool}
theorem inT {B : Wd} {Eo : Exn → Loc → Cells → Prop} {σ : L2.St} {H : Hp} {Q : VK} (h : tE (sx X) z B (xInI t neg fa fb) Eo σ H Q) : tOp (rInI (sx X) t neg) (tE (sx X) z B fa Eo) (tE (sx X) z B fb Eo) σ H Q := by
  obtain ⟨W, cs, l, s, lr, w⟩ := h
  refine ⟨W, cs, l, s, lr, wp_imp (wp_bd.mp w) (fun d cs1 w1 W1 v1 H1 le1 o1 s1 r1 => ?_) fun _ _ h => h⟩
  refine ⟨W1, cs1, l, s1, lr.mono le1 o1, wp_imp (wp_bd.mp w1) (fun e cs2 w2 W2 v2 H2 le2 o2 s2 r2 => ?_) fun _ _ h => h⟩
  exact ⟨W2, cs2, d, e, s2, r1.mono le2, r2, wp_imp (wp_nox w2) (fun r cs3 k W3 v H3 le3 o3 s3 r3 => k W3 v H3 ((le1.trans le2).trans le3) (o3.trans (o2.trans o1)) s3 r3) fun _ _ h => h⟩
theorem je_inI (hp : ∀ {u v : TE}, PE X a u → PE X b v → PE X e (tOp (rInI (sx X) t neg) u v)) (ha : JE X z a fa) (hb : JE X z b fb) : JE X z e (xInI t neg fa fb) := ⟨fun B Eo tk => pe_imp (hp (ha.run B Eo tk) (hb.run B Eo tk)) fun _ _ _ h => inT h⟩
theorem jt_inI (hp : ∀ {u v : TE}, PE X a u → PE X b v → PT X e (tTest (tOp (rInI (sx X) t neg) u v))) (ha : JE X z a fa) (hb : JE X z b fb) : JT X z e (bV (xInI t neg fa fb)) := ⟨fun B Eo tk => pt_imp (hp (ha.run B Eo tk) (hb.run B Eo tk)) fun _ _ _ h => inT (bV_ok h)⟩
end
end F

/-! o.f, a property whose getter does not raise -/
namespace F
open PySem L2 Evl PyProof.Rows
structure PrOk (P : Program) (w : World) (K : PySem.W.Frag) (mg : Str → Option Value) (base : Heap) (k : Nat) (f : Str) (t : EqT) : Prop where
  at_ : ∀ q ∈ t, ∃ Cl p g, mg q.1 = some (.ref Cl) ∧ Cls K Cl ∧ PropOf K Cl f p g ∧ FnG P w K mg base k g [] q.2
def propDyn (t : EqT) (d : D) : EM D := fun cs => match insOf cs d with
  | some (c, _) => match t.at_ c with
    | some Fe => nox (Fe [d] []) cs
    | none => .no
  | none => .no
def xProp (t : EqT) (fa : XE) : XE := fun l => bd (fa l) fun d => nox (propDyn t d)
section
variable {X : Cx} {z : ZT} {k j : Nat} {t : EqT} {f : Str} {e : Expr} {fa : XE} {pos : Pos}
def tPropD (Z : Sx) (t : EqT) (ta : TE) : TE := fun σ H Q => ta σ H fun x H1 => ∃ W cs d, S Z W cs H1 ∧ Rep Z W x d ∧ wp (propDyn t d) cs (okP Z W Q) fun _ _ => False
theorem pe_propD (o : PrOk X.prog X.w X.K X.mg X.base k f t) (hr : RmG (k + 1) X.A) {ta : TE} (he : PE X e ta) (hab : attributeBase e f X.env (eval e X.env) = eval e X.env) : PE X (.Attribute e f pos) (tPropD (sx X) t ta) := by
  refine ⟨fun pins s σ H Q I h => ?_⟩
  refine attr_of hab (thn (he.run pins s σ H _ I h) fun u s1 ⟨x, H1, I1, rx, W, cs, d, ss, rx', w⟩ => ?_)
  cases q : insOf cs d with
  | none =>
    have e1 : propDyn t d cs = (no : EM D) cs := by unfold propDyn; rw [q]; rfl
    exact (wp_congr e1 w).elim
  | some cf =>
    obtain ⟨c, fs⟩ := cf
    obtain ⟨a, Cl, dx, vs, rfl, m, ha, rf⟩ := insOf_ok ss rx' q
    cases qe : t.at_ c with
    | none =>
      have e1 : propDyn t d cs = (no : EM D) cs := by unfold propDyn; rw [q]; dsimp only; rw [qe]; rfl
      exact (wp_congr e1 w).elim
    | some Fe =>
      have e1 : propDyn t d cs = nox (Fe [d] []) cs := by unfold propDyn; rw [q]; dsimp only; rw [qe]
      have w1 := wp_nox (E' := fun _ _ => False) (wp_congr e1 w)
      unfold EqT.at_ at qe
      cases q3 : t.find? fun q => decide (q.1 = c) with
      | none => rw [q3] at qe; cases qe
      | some r =>
        rw [q3] at qe
        cases qe
        have hr3 := List.find?_some q3
        obtain ⟨Cl', p, g, h4, hc, hp, h3⟩ := o.at_ r (List.mem_of_find?_eq_some q3)
        rw [of_decide_eq_true hr3, show X.mg c = some (.ref Cl) from m] at h4
        cases h4
        cases (show u = Value.ref a from rx)
        obtain ⟨mA, O, _⟩ := ins_get I1.hok ha
        obtain ⟨od, J, _⟩ := O.look
        obtain ⟨rest, hrec⟩ := hp.rec_
        have I2 := I1.tok (s1.toks + 1)
        have hcs : (PySem.W.clsIn X.K Cl).isSome = true := by
          obtain ⟨cd, hc, _⟩ := PySem.W.any_some hc.hd
          rw [hc]
          rfl
        refine PySem.W.get_bind I1.kIn J (PySem.W.plainGet_of (hc.get f)).1 (PySem.W.findObj_data hcs hp.at_ hp.get hp.tak) (PySem.W.plainGet_of (hc.get f)).2 (wpAny_call (PySem.W.prop_get (s := { s1 with toks := s1.toks + 1 }) I1.kIn hrec ?_))
        have hsp : spF (sx X) r.2 [.ref a] [] H1 Q (fun _ _ _ => False) := ⟨W, cs, [d], [], ss, .cons rx' .nil, .nil, wp_imp w1 (fun d' cs' w2 => w2) (E := fun _ _ => False) fun _ _ h => h.elim⟩
        refine codeAny_mono (h3 X.A.in1 X.stack { s1 with toks := s1.toks + 1 } H1 [.ref a] [.ref a] [] [] _ _ hr.in1 I2.env0.in1 (.cons rfl .nil) .nil rfl hsp) fun rr s' hq => ?_
        cases rr with
        | error e =>
          obtain ⟨_, _, _, _, _, _, _, _, _, _, _, _, he⟩ := hq
          exact False.elim he
        | ok fl =>
          cases fl with
          | ret u =>
            obtain ⟨v, H', I3, rv, q3⟩ := I2.after hq
            show wpAny _ _ (handedOut u) _ _ _
            rw [PySem.W.handedOut_of (handed_of rv)]
            exact wpAny_pure ⟨v, H', I3, rv, q3⟩
          | next => exact False.elim hq
          | brk => exact False.elim hq
          | cont => exact False.elim hq
theorem je_prop (o : PrOk X.prog X.w X.K X.mg X.base k f t) (hr : RmG j X.A) (hk : k + 1 ≤ j) (h : JE X z e fa) (hab : attributeBase e f X.env (eval e X.env) = eval e X.env := by rfl) : JE X z (.Attribute e f pos) (xProp t fa) :=
  ⟨fun B Er tk => pe_imp (pe_propD o (hr.mono hk) (h.run B Er tk) hab) fun σ H Q ⟨W, cs, l, s, lr, w⟩ => by
  refine ⟨W, cs, l, s, lr, wp_imp (wp_bd.mp w) (fun d cs1 w1 W1 v1 H1 le1 o1 s1 r1 => ?_) fun _ _ h => h⟩
  exact ⟨W1, cs1, d, s1, r1, wp_imp (wp_nox (E' := fun _ _ => False) w1) (fun d' cs' w2 W' v H' le o s' rv => w2 W' v H' (le1.trans le) (o.trans o1) s' rv) fun _ _ h => h⟩⟩
end
end F

/-! C(), C(*a, *b), not x of any x, what is never reached, own + and |, a list of one's own that is shared from now on -/
namespace PySem.W
open PySem PySem.Calls PyProof.Rows
section
variable {M : Model} {A : Around} {E : Value → Shared → Prop} {s : Shared} {K : Frag} {env : Env} {pos p : Pos} {f : Value} {first : List Value} {Q : Value → Shared → Prop}
theorem eq_two {a b : Bool × Sem Value} {rest : List (Bool × Sem Value)} {kws : List (Option Str × Sem Value)} {Q : Args → Shared → Prop} (hall : kws.all (·.1.isSome) = true)
    (h : wpAny M A (spliced (a :: b :: rest)) (fun vs s₁ => wpAny M A (evalAll (kws.map (·.2))) (fun ks s₂ => Q ⟨vs, (kws.filterMap (·.1)).zip ks⟩ s₂) E s₁) E s) :
    wpAny M A (evalArgs f true (a :: b :: rest) kws) Q E s := by
  obtain ⟨a1, a2⟩ := a
  unfold evalArgs
  cases a1 <;>
  · show wpAny M A (spliced (_ :: b :: rest) >>= _) Q E s
    refine wpAny_bind (wpAny_mono h (fun vs s₁ h₁ => ?_) fun _ _ x => x)
    refine wpAny_holding ?_
    simp only [hall, if_true]
    refine wpAny_bind (wpAny_mono h₁ (fun ks s₂ h₂ => ?_) fun _ _ x => x)
    exact wpAny_bind (wpAny_pure (wpAny_pure h₂))
/-- two arguments or more, any of them stars -/
theorem callWith_A2 {es : List Expr} {kws : List Keyword} (hk : keepIn K f = true) (hall : (backToKw pos (keywordEach kws env)).all (·.1.isSome) = true)
    (h : wpAny M A (spliced (backTo pos (starEach es env))) (fun vs s₁ => wpAny M A (evalAll ((backToKw pos (keywordEach kws env)).map (·.2)))
      (fun ks s₂ => K.In s₂.heap ∧ wpAny M A (call f (first ++ vs) (((backToKw pos (keywordEach kws env)).filterMap (·.1)).zip ks)) Q E s₂) E s₁) E s)
    (he : ∃ a b r, backTo pos (starEach es env) = a :: b :: r) :
    wpAny M A (callWith pos f first (backTo pos (starEach es env)) (backToKw pos (keywordEach kws env))) Q E s := by
  obtain ⟨a, b, r, he⟩ := he
  rw [he] at h ⊢
  have g : wpAny M A (evalArgs f true (a :: b :: r) (backToKw pos (keywordEach kws env))) (fun a s₁ => K.In s₁.heap ∧ wpAny M A (call f (first ++ a.pos) a.kw) Q E s₁) E s := eq_two hall h
  cases q : ((a :: b :: r).any (·.1) || (backToKw pos (keywordEach kws env)).any (·.1.isNone)) with
  | false => exact callWith_of q (keeps_K hk) g
  | true => exact eq_callStar q (keeps_K hk) g
end
end PySem.W
namespace F
open PySem L2 Evl PyProof.Rows
section
variable {X : Cx} {z : ZT} {k j : Nat} {x : Str} {kn : List Str} {Fn : List D → List D → EM D} {e : Expr} {es : List Expr} {kws : List Keyword} {fa fe : XE} {f fk : XA} {p pos : Pos}
theorem je_make0 (c : MkrG X.prog X.w X.K X.mg X.base k x [] Fn) (hr : RmG j X.A) (hk : k + 1 ≤ j) (hg : Gl X x) (hdb : (x == ("__debug__" : Str)) = false := by decide) : JE X z (.Call (.Name x p) [] [] pos) (fun _ => Fn [] []) := ⟨fun B Eo tk => ⟨fun pins s σ H Q I h => by
  obtain ⟨Cl, g, M, hF, hm⟩ := c.ex
  refine wpAny_Call_Name_kw (ld_glob I hg hm ?_ hdb)
  refine PySem.W.callWith_K0 (first := []) I.kIn M.kp ?_
  obtain ⟨W, cs, l, ss, lr, w⟩ := h
  exact run_mk (us := []) (ws := []) (vs := []) (zs := []) M hF hm (hr.mono hk) tk I .nil .nil rfl ⟨W, cs, l, [], [], ss, lr, .nil, .nil, w⟩⟩⟩
theorem je_make2 (c : MkrG X.prog X.w X.K X.mg X.base k x kn Fn) (hr : RmG j X.A) (hk : k + 1 ≤ j) (hg : Gl X x) (ha : JA X z es f) (hkw : JK X z kws fk)
    (he : ∃ a b r, backTo pos (starEach es X.env) = a :: b :: r := by exact ⟨_, _, _, rfl⟩)
    (hall : (backToKw pos (keywordEach kws X.env)).all (·.1.isSome) = true := by rfl) (hks : (backToKw pos (keywordEach kws X.env)).filterMap (·.1) = kn := by rfl) (hdb : (x == ("__debug__" : Str)) = false := by decide) :
    JE X z (.Call (.Name x p) es kws pos) (xCall (kChk kn.length Fn) f fk) := ⟨fun B Eo tk => ⟨fun pins s σ H Q I h => by
  obtain ⟨Cl, g, M, hF, hm⟩ := c.ex
  refine wpAny_Call_Name_kw (ld_glob I hg hm ?_ hdb)
  refine PySem.W.callWith_A2 (K := X.K) M.kp hall (thn ((ha.run B Eo tk).run pos pins s σ H _ I (args2 h)) fun us s1 ⟨vs, H1, I1, r, q⟩ => ?_) he
  refine thn ((hkw.run B Eo tk).run pos pins s1 σ H1 _ I1 q) fun ws s2 ⟨zs, H2, I2, rz, a⟩ => ⟨I2.kIn, ?_⟩
  obtain ⟨l, a⟩ := a.chk
  rw [hks]
  exact run_mk M hF hm (hr.mono hk) tk I2 r rz l a⟩⟩
/-- not x, x anything that has a truth -/
def xNotT (f : XE) : XE := fun l => bd (bTru f l) fun b => rt (.bl (!b))
theorem je_notT (h : JE X z e fe) : JE X z (.UnaryOp .Not e pos) (xNotT fe) := ⟨fun B Er tk => pe_imp (pe_notT (h.run B Er tk)) fun σ H Q ⟨W, cs, l, s, lr, w⟩ => by
  refine ⟨W, cs, l, s, lr, wp_imp (wp_bd.mp (wp_bd.mp w)) (fun d cs1 w1 W1 v1 H1 le1 o1 s1 r1 => ?_) fun _ _ h => h⟩
  obtain ⟨r, hr, k⟩ := wp_rd.mp w1
  exact ⟨r, tru_of s1 r1 hr, k W1 _ H1 le1 o1 s1 (.bl _)⟩⟩
/-- what the law never reaches -/
def xNone : XE := fun _ => no
theorem je_none : JE X z e xNone := ⟨fun B Er tk => ⟨fun pins s σ H Q I ⟨W, cs, l, s', lr, w⟩ => False.elim w⟩⟩
end
/-! ### own + and | -/
def asIns (d : D) : EM D := match d with
  | .ins c fs => rt (.ins c fs)
  | _ => no
def binDyn (t : EqT) (x y : D) : EM D := fun cs => match insOf cs x with
  | some (c, _) => match insOf cs y with
    | some (c', _) => if c = c' then match t.at_ c with
        | some Fe => bd (Fe [x, y] []) asIns cs
        | none => .no
      else .no
    | none => .no
  | none => .no
def xBinI (t : EqT) (fa fb : XE) : XE := fun l => bd (fa l) fun x => bd (fb l) fun y => binDyn t x y
structure SfOk (K : PySem.W.Frag) (mg : Str → Option Value) (t : EqT) : Prop where
  at_ : ∀ q ∈ t, ∃ Cl, mg q.1 = some (.ref Cl) ∧ PySem.W.selfFirst K Cl = true
theorem SfOk.get {K : PySem.W.Frag} {mg : Str → Option Value} {t : EqT} (o : SfOk K mg t) {c : Str} {Fe : List D → List D → EM D} {Cl : Addr} (h : t.at_ c = some Fe) (hm : mg c = some (.ref Cl)) : PySem.W.selfFirst K Cl = true := by
  unfold EqT.at_ at h
  cases q : t.find? fun q => decide (q.1 = c) with
  | none => rw [q] at h; cases h
  | some r =>
    have hr := List.find?_some q
    obtain ⟨Cl', h4, h5⟩ := o.at_ r (List.mem_of_find?_eq_some q)
    rw [of_decide_eq_true hr, hm] at h4
    cases h4
    exact h5
theorem binDyn_ok {Z : Sx} {W : Wd} {cs : Cells} {t : EqT} {x y : D} {Q : D → Cells → Prop} {E : Exn → Cells → Prop} (w : wp (binDyn t x y) cs Q E) :
    ∃ c f1 f2 Fe, insOf cs x = some (c, f1) ∧ insOf cs y = some (c, f2) ∧ t.at_ c = some Fe ∧ wp (bd (Fe [x, y] []) asIns) cs Q E := by
  unfold wp binDyn at w
  cases q : insOf cs x with
  | none => rw [q] at w; exact w.elim
  | some cf =>
    obtain ⟨c, f1⟩ := cf
    rw [q] at w
    cases q2 : insOf cs y with
    | none => rw [q2] at w; exact w.elim
    | some cf2 =>
      obtain ⟨c', f2⟩ := cf2
      rw [q2] at w
      by_cases e : c = c'
      · subst e
        cases q3 : t.at_ c with
        | none => simp only [q3, if_true] at w
        | some Fe =>
          refine ⟨c, f1, f2, Fe, rfl, rfl, q3, ?_⟩
          simp only [q3, if_true] at w
          exact w
      · simp only [if_neg e] at w
section
variable {X : Cx} {z : ZT} {k j : Nat} {t : EqT} {op : Operator} {m : Str} {a b : Expr} {fa fb : XE} {pos : Pos}
theorem je_binI (o : SpOk X.prog X.w X.K X.mg X.base k m t) (sf : SfOk X.K X.mg t) (hr : RmG j X.A) (hk : k ≤ j) (ha : JE X z a fa) (hb : JE X z b fb) (hm : PySem.dunder op.info.2 = m := by rfl) : JE X z (.BinOp a op b pos) (xBinI t fa fb) :=
  ⟨fun B Er tk => ⟨fun pins s σ H Q I h => by
  refine wpAny_BinOp (binT (ha.run B Er tk) (hb.run B Er tk) (R := fun x y H2 => ∃ W cs l d e, S (sx X) W cs H2 ∧ LR (sx X) z B W l σ ∧ Rep (sx X) W x d ∧ Rep (sx X) W y e ∧ wp (binDyn t d e) cs (okP (sx X) W Q) (fun x cs' => Er x l cs')) I ?_ fun v u s2 x y H2 I2 rx ry q => ?_)
  · obtain ⟨W, cs, l, s, lr, w⟩ := h
    refine ⟨W, cs, l, s, lr, wp_imp (wp_bd.mp w) (fun d cs1 w1 W1 v1 H1 le1 o1 s1 r1 => ?_) fun _ _ h => h⟩
    refine ⟨W1, cs1, l, s1, lr.mono le1 o1, wp_imp (wp_bd.mp w1) (fun e cs2 w2 W2 v2 H2 le2 o2 s2 r2 => ?_) fun _ _ h => h⟩
    exact ⟨W2, cs2, l, d, e, s2, lr.mono (le1.trans le2) (o2.trans o1), r1.mono le2, r2, wp_imp w2 (fun r cs3 k W3 v H3 le3 o3 s3 r3 => k W3 v H3 ((le1.trans le2).trans le3) (o3.trans (o2.trans o1)) s3 r3) fun _ _ h => h⟩
  · obtain ⟨W, cs, l, d, e, ss, lr, rx', ry', w⟩ := q
    obtain ⟨c, f1, f2, Fe, q1, q2, q3, w1⟩ := binDyn_ok (Z := sx X) (W := W) w
    obtain ⟨a1, Cl, dx, vs, rfl, m1, ha1, rf⟩ := insOf_ok ss rx' q1
    obtain ⟨a2, Cl2, dx2, vs2, rfl, m2, ha2, rf2⟩ := insOf_ok ss ry' q2
    rw [m1] at m2
    cases m2
    cases (show v = Value.ref a1 from rx)
    cases (show u = Value.ref a2 from ry)
    obtain ⟨mA, OM, _⟩ := ins_get I2.hok ha1
    obtain ⟨od, J, _⟩ := OM.look
    obtain ⟨mA2, OM2, _⟩ := ins_get I2.hok ha2
    obtain ⟨od2, J2, _⟩ := OM2.look
    obtain ⟨mm, hF⟩ := I2.fr
    obtain ⟨g, h1, h2, h3⟩ := o.get q3 m1
    refine PySem.W.binop_K hF I2.ok.mod.kin J J2.type (sf.get q3 m1) (hm.symm ▸ h1) h2 ?_
    refine wpAny_mono (run_G (us := [.ref a1, .ref a2]) (vs := [.ref a1, .ref a2]) (ws := []) (zs := []) (Q := fun v H => (∃ a, v = .ref a) ∧ Q v H) h3 (hr.mono hk) tk I2 (.cons rfl (.cons rfl .nil)) .nil rfl ⟨W, cs, l, [d, e], [], ss, lr, .cons rx' (.cons ry' .nil), .nil, wp_imp (wp_bd.mp w1) (fun r cs' w2 W' v H' le o' s' rv => ?_) fun _ _ h => h⟩) (fun r s' ⟨v, H', I', rv, ⟨ar, ev⟩, q⟩ => ?_) fun _ _ x => x
    · unfold asIns at w2
      split at w2
      · have q := w2 W' v H' le o' s' rv
        cases rv
        exact ⟨⟨_, rfl⟩, q⟩
      · exact w2.elim
    · subst ev
      cases (show r = Value.ref ar from rv)
      exact ⟨V.ref ar, H', I', rfl, q⟩⟩⟩
end
/-! ### what a slot owns is a cell from now on -/
def sPub (i : Nat) : XS := fun l cs => match l[i]? with
  | some (.own (.lst xs)) => .go (.nx (l.set i (.val (.cel cs.length)))) (cs ++ [.lst xs])
  | _ => .no
def less (O : Hp) (a : Addr) : Hp := fun b => if b = a then none else O b
theorem less_ex {O : Hp} {a : Addr} : Ex (less O a) O := fun b u e => by
  by_cases hb : b = a
  · exact absurd (show none = some u by rw [← e]; exact (if_pos hb).symm) (fun z => nomatch z)
  · rw [← e]; exact (if_neg hb).symm
theorem less_at {O : Hp} {a : Addr} : less O a a = none := if_pos rfl
theorem less_none {O : Hp} {a b : Addr} (h : O b = none) : less O a b = none := by
  unfold less
  split
  · rfl
  · exact h
theorem less_ne {O : Hp} {a b : Addr} (h : b ≠ a) : less O a b = O b := if_neg h
abbrev Wd.pub (W : Wd) (a : Addr) : Wd := { W with O := less W.O a, i := W.i ++ [a] }
theorem Le.pub (W : Wd) (a : Addr) : Le W (W.pub a) := ⟨Ex.refl _, (Le.cel W a).i⟩
theorem S.pub {Z : Sx} {W : Wd} {cs : Cells} {H : Hp} {a : Addr} {o : HO} {c : C} (s : S Z W cs H) (hO : W.O a = some o) (r : RepC Z W a o c) : S Z (W.pub a) (cs ++ [c]) H where
  g := s.g
  o := less_ex.trans s.o
  dj := fun b u e => s.dj b u (less_ex b u e)
  len := by rw [List.length_append, List.length_append, s.len]; rfl
  nd := by
    show (W.i ++ [a]).Nodup
    refine List.nodup_append.mpr ⟨s.nd, by simp, fun x hx b hb => ?_⟩
    have eb : b = a := by simpa using hb
    subst eb
    intro z
    subst z
    have := s.fo x hx
    rw [hO] at this
    cases this
  al := fun b hb => by
    rcases List.mem_append.mp hb with hb | hb
    · exact s.al b hb
    · have ea : b = a := by simpa using hb
      subst ea
      exact ⟨o, s.o _ _ hO⟩
  fo := fun b hb => by
    rcases List.mem_append.mp hb with hb | hb
    · exact less_none (s.fo b hb)
    · have ea : b = a := by simpa using hb
      subst ea
      exact less_at
  at_ := fun n b c' e1 e2 e3 => by
    by_cases hn : n < cs.length
    · rw [List.getElem?_append_left hn] at e2
      have e1' : (W.i ++ [a])[n]? = some b := e1
      rw [List.getElem?_append_left (by rw [s.len]; exact hn)] at e1'
      obtain ⟨g, u, e, r'⟩ := s.at_ n b c' e1' e2 e3
      exact ⟨g, u, e, r'.mono (Le.pub W a)⟩
    · have hl := (List.getElem?_eq_some_iff.mp e2).1
      rw [List.length_append] at hl
      have hn' : n = cs.length := by simp at hl; omega
      subst hn'
      have e1' : (W.i ++ [a])[cs.length]? = some b := e1
      rw [← s.len, List.getElem?_append_right (Nat.le_refl _)] at e1'
      rw [List.getElem?_append_right (Nat.le_refl _)] at e2
      simp at e1' e2
      subst e1' e2
      exact ⟨s.dj _ _ hO, o, s.o _ _ hO, r.mono (Le.pub W a)⟩
theorem LR.pub {Z : Sx} {z : ZT} {B : Wd} {W : Wd} {l : Loc} {σ : L2.St} {H : Hp} {cs : Cells} {i : Nat} {a : Addr} {o : HO} {c : C} (h : LR Z z B W l σ) (s : S Z W cs H) (hi : l[i]? = some (.own c)) (ha : σ[i]? = some (some (.ref a))) : LR Z z B (W.pub a) (l.set i (.val (.cel cs.length))) σ := by
  have hB : B.O a = none := by
    obtain ⟨a', o', e, _, h3, _⟩ := h.sl i _ hi
    rw [ha] at e
    cases e
    exact h3.1
  have le : Le W (W.pub a) := Le.pub W a
  refine ⟨by rw [List.length_set]; exact h.len, fun j s' e => ?_, fun j k c1 c2 b h1 h2 h3 h4 => ?_, h.base.1.trans le, fun b u e => ?_⟩
  · by_cases hj : j = i
    · subst hj
      rw [List.getElem?_set_self (List.getElem?_eq_some_iff.mp hi).1] at e
      cases e
      rw [ha]
      refine ⟨_, rfl, .cel ?_⟩
      show (W.i ++ [a])[cs.length]? = some a
      rw [← s.len, List.getElem?_append_right (Nat.le_refl _)]
      simp
    · rw [List.getElem?_set_ne (Ne.symm hj)] at e
      have q := h.sl j s' e
      cases s' with
      | emp => exact True.intro
      | val d => obtain ⟨u, h1, h2⟩ := q; exact ⟨u, h1, h2.mono le⟩
      | own c1 =>
        obtain ⟨b, o1, h4, h5, h6, h7⟩ := q
        have ne : b ≠ a := fun z => by
          subst z
          exact hj (h.dj j i c1 c b e hi h4 ha)
        exact ⟨b, o1, h4, by show less W.O a b = some o1; rw [less_ne ne]; exact h5, h6, h7.mono le⟩
      | me d => obtain ⟨b, h1, h2, h3⟩ := q; exact ⟨b, h1, h2, h3.mono le⟩
      | exn x => obtain ⟨b, c1, d, h1, h2, h3⟩ := q; exact ⟨b, c1, d, h1, h2, h3.mono le⟩
  · have get : ∀ {m : Nat} {cc : C}, (l.set i (.val (.cel cs.length)))[m]? = some (.own cc) → l[m]? = some (.own cc) := fun {m cc} e => by
      by_cases hm : m = i
      · subst hm
        rw [List.getElem?_set_self (List.getElem?_eq_some_iff.mp hi).1] at e
        cases e
      · rw [List.getElem?_set_ne (Ne.symm hm)] at e; exact e
    exact h.dj j k c1 c2 b (get h1) (get h2) h3 h4
  · have ne : b ≠ a := fun z => by rw [z, hB] at e; cases e
    show less W.O a b = some u
    rw [less_ne ne]
    exact h.base.2 b u e
theorem jss_pub {X : Cx} {z : ZT} {i : Nat} {sts : List Stmt} {g : XS} (h : JSs X z sts g) : JSs X z sts (sSeq (sPub i) g) := ⟨fun B Er tk => pss_imp (h.run B Er tk) fun D σ H ⟨W, cs, l, s, lr, w⟩ => by
  have w1 := wpS_seq.mp w
  unfold sPub at w1
  split at w1
  · rename_i xs hl
    obtain ⟨a, o, ha, hO, _, ra⟩ := lr.sl i _ hl
    exact ⟨W.pub a, _, _, s.pub hO ra, lr.pub (o := o) s hl ha, wpS_imp w1 fun fl cs2 p => post_le (Le.pub W a) p⟩
  · exact w1.elim⟩
/-! facts -/
def spB (K : PySem.W.Frag) (C : Addr) (m : Str) (g : Addr) : Bool := E.methB K C m g
def sfB (K : PySem.W.Frag) (C : Addr) : Bool := PySem.W.selfFirst K C
theorem spB_ok {K : PySem.W.Frag} {C : Addr} {m : Str} {g : Addr} (h : spB K C m g = true) : PySem.W.findIn K (.ref C) m = some (some (.ref g)) ∧ PySem.W.isFn K (.ref g) = true := by
  have q := E.methB_ok h
  exact ⟨q.1, q.2⟩
end F

/-! enumerate(t), t a tuple -/
namespace PySem
open Sem (wp)
open AutoSeq1 (wpAny_loadPart')
theorem tenum_new (tp : Addr) (xs : Array Value) (k : Nat) (dc : Option Addr) (so : Array (Option Value)) :
    Meets (Builtin.«enumerate.__new__» ⟨[.type "enumerate", .ref tp], []⟩) (fun _ R s => s.heap.get? tp = some { cls := .type "tuple", dict := dc, data := .seq xs k, slots := so } ∧
      R (.ok (.ret (.ref (s.heap.push { cls := .type "tuple_iterator", data := .fields #[.ref tp, .int 0 0] }).objs.size)))
        { s with heap := (s.heap.push { cls := .type "tuple_iterator", data := .fields #[.ref tp, .int 0 0] }).push { cls := .type "enumerate", data := .fields #[.none, .bool false, .ref s.heap.objs.size, rawInt 0, .none, .none] } }) :=
  .of_wp fun prog w A R s h => by
    obtain ⟨hp, g, d, tk, os⟩ := s
    obtain ⟨hl, h⟩ := h
    have hs0 := sub_enumerate
    have hT : Heap.IsTuple (Shared.heap ⟨hp, g, d, tk, os⟩) tp xs := ⟨_, hl, rfl, k, rfl⟩
    wp_walk using wpAny_loadPart' hl
    refine wpAny_stack_any fun st => wpAny_pure ?_
    split
    · rename_i cc _ _ _ _ _
      cases (cc == Value.type "enumerate")
      · wp_walk using wpAny_loadPart' hl, wpAny_pyIter_tuple hT
        exact ⟨_, rfl, h⟩
      · wp_walk using wpAny_loadPart' hl, wpAny_pyIter_tuple hT
        exact ⟨_, rfl, h⟩
    · wp_walk using wpAny_loadPart' hl, wpAny_pyIter_tuple hT
      exact ⟨_, rfl, h⟩
section
variable {prog : Program} {w : World} {A : Around} {E : Value → Shared → Prop} {s : Shared}
theorem tenum_call {tp : Addr} {xs : Array Value} {Q : Value → Shared → Prop} (ht : s.heap.IsTuple tp xs)
    (h : ∀ h', IsEnum h' (s.heap.objs.size + 1) s.heap.objs.size 0 .none → h'.IsTupleIter s.heap.objs.size tp 0 → (∀ b o, s.heap.get? b = some o → h'.get? b = some o) → Q (.ref (s.heap.objs.size + 1)) { s with heap := h' }) :
    wpAny (model prog w) A (call (.type "enumerate") [.ref tp]) Q E s := by
  obtain ⟨⟨c, dc, dt, so⟩, hl, hc, k, hd⟩ := ht
  replace hc : c = .type "tuple" := hc
  replace hd : dt = .seq xs k := hd
  subst hc hd
  refine callType_new F.called_enumerate (by decide) (F.typeCall_enumerate_1 _) (F.newCall_enumerate_1 _) (fun ob => F.args_object_init_2 ob _) F.entry_enumerate_new (tenum_new tp xs k dc so) ⟨hl, ?_⟩
  have hz : (s.heap.push { cls := .type "tuple_iterator", data := .fields #[.ref tp, .int 0 0] }).objs.size = s.heap.objs.size + 1 := Heap.size_push ..
  show _ ∧ _
  rw [hz]
  have q := Heap.get?_push_size (s.heap.push { cls := .type "tuple_iterator", data := .fields #[.ref tp, .int 0 0] }) (o := { cls := .type "enumerate", data := .fields #[.none, .bool false, .ref s.heap.objs.size, rawInt 0, .none, .none] }) rfl
  rw [hz] at q
  exact ⟨⟨_, q, rfl⟩, h _ q ⟨_, Heap.get?_push_of_some _ (Heap.get?_push_size _ rfl), rfl, rfl⟩ fun b o x => Heap.get?_push_of_some _ (Heap.get?_push_of_some _ x)⟩
end
end PySem
namespace L2
open PySem PySem.Spec PyProof.Rows
/-- the tuple at a, each item in a new pair -/
def IteT (K : PySem.W.Frag) (a : Addr) : It :=
  ⟨fun i H => ∃ (xs : List V) (x : V), SqT K H a xs ∧ xs[i]? = some x, fun i H v H' => ∃ T x, v = .ref T ∧ H T = none ∧ H' = upd H T (.tup [.int (i : Nat), x]) ∧ ∀ xs, SqT K H a xs → xs[i]? = some x, fun i H => ∃ xs : List V, SqT K H a xs ∧ xs.length ≤ i⟩
theorem turn_enumT {P : Program} {w : World} {K : PySem.W.Frag} {elts : List Expr} {kk : Nat} {tpos : Pos} (a e it : Addr) (hai : a ≠ it) (hea : e ≠ a) :
    Turn P w K (.Tuple elts kk tpos) (IteT K a) [e, it] e (fun i h => (∃ old, IsEnum h e it ((i : Nat) : Int) old) ∧ h.IsTupleIter it a i ∧ e ≠ it) where
  mem := by simp
  obj := fun i h st b hb => by
    obtain ⟨⟨old, he⟩, ⟨o, ho, hc, hd⟩, _⟩ := st
    have e' : b = e ∨ b = it := by simpa using hb
    rcases e' with z | z
    · rw [z]; exact ⟨_, he, fun v q => nomatch q⟩
    · rw [z]; exact ⟨o, ho, fun v q => by rw [hd] at q; cases q⟩
  keep := fun i h h' st k => by
    obtain ⟨⟨old, he⟩, hi, hne⟩ := st
    exact ⟨⟨old, k e (by simp) _ he⟩, hi.at fun o q => k it (by simp) o q, hne⟩
  item := by
    intro X hP hw hK hc i pins s σ H E I hf st hg
    subst hP hw hK
    obtain ⟨⟨old, he⟩, hit, hne⟩ := st
    obtain ⟨xs, x, hq, hx⟩ := hg
    obtain ⟨its, rv, p, hz⟩ := I.tuple hq
    obtain ⟨u, hu, ru⟩ := rv.get hx
    have hel : e < s.heap.objs.size := Heap.lt_size he
    have hil : it < s.heap.objs.size := by obtain ⟨_, q, _⟩ := hit; exact Heap.lt_size q
    have hT0 : s.heap.IsTuple a its.toArray := p
    have hlt : i < its.toArray.size := by
      have := (List.getElem?_eq_some_iff.mp hu).1
      simpa using this
    refine wpAny_pyNext_enum_itemD (Draws.tuple (A := X.A.in1) (show X.A.in1.handled = none from I.ok.hd hc) it a hai its.toArray) he ⟨hit, hT0⟩ hlt hne (by simp [hne, hea]) fun y h' tk hy ho hit' hT hsz hk => ?_
    have ey : y = u := by
      have e1 : its.toArray[i]? = some u := by simpa using hu
      rw [e1] at hy
      exact (Option.some.inj hy).symm
    subst ey
    refine ⟨_, rfl, wpAny_letOwnedTupleGo_enum (s := { s with heap := h', toks := tk + 1 }) ho fun h'' he' sb => ?_⟩
    have hT2 : h''.get? s.heap.objs.size = some { cls := .type "tuple", data := .seq #[.int i tk, y] } := (sb.2 _ (Nat.ne_of_gt hel)).trans hT
    have new : ObjOk X.prog X.w (upd H s.heap.objs.size (.tup [.int (i : Nat), x])) h'' s.heap.objs.size (.tup [.int (i : Nat), x]) :=
      ⟨by show 2 ≤ sizeLine; decide, [.int i tk, y], .cons ⟨_, rfl⟩ (.cons ru .nil), ⟨_, hT2, rfl, _, rfl⟩⟩
    have I1 : Inv X pins σ (upd H s.heap.objs.size (.tup [.int (i : Nat), x])) { s with heap := h'', toks := tk + 1 } :=
      I.turnedNew (ch := [e, it]) (fun b ob hb q => (sb.2 b (fun z => hb (by simp [z]))).trans (hk b ob (fun z => hb (by simp [z])) (fun z => hb (by simp [z])) q)) hf (Nat.le_refl _) new
    refine ⟨.ref s.heap.objs.size, _, I1, rfl, ⟨_, x, rfl, I.hok.fresh (Nat.le_refl _), rfl, fun ys hy => by rw [I.tuple_inj hy hq]; exact hx⟩, ⟨⟨y, ?_⟩, hit'.1.at fun o q => (sb.2 it (Ne.symm hne)).trans q, hne⟩, fun b hb => ?_⟩
    · have e1 : ((i + 1 : Nat) : Int) = (i : Int) + 1 := by omega
      rw [e1]
      exact he'
    · have hb' : b < s.heap.objs.size := by
        have e' : b = e ∨ b = it := by simpa using hb
        rcases e' with z | z
        · rw [z]; exact hel
        · rw [z]; exact hil
      rw [upd_ne (Nat.ne_of_lt hb')]
      exact (hf b hb).1
  done := by
    intro X hP hw hK hc i pins s σ H E I hf st hg
    subst hP hw hK
    obtain ⟨⟨old, he⟩, hit, hne⟩ := st
    obtain ⟨xs, hq, hx⟩ := hg
    obtain ⟨its, rv, p, hz⟩ := I.tuple hq
    obtain ⟨f0, f1, f2, f3, f4, f5⟩ := hf it (by simp)
    have hT0 : s.heap.IsTuple a its.toArray := p
    have hl := rv.length
    refine tend (I.ok.hd hc) he hit hT0 (by simp; omega) fun h' eb => ?_
    exact ⟨rfl, I.turned (t' := s.toks) (fun b o hb q => eb b o hb q) f0 f1 f3 f4 f5⟩
  self := fun A i s Q E st h => by
    obtain ⟨⟨_, he⟩, _⟩ := st
    exact wpAny_pyIter_enum he h
where
  tend {prog : Program} {w : World} {A : Around} {E : Value → Shared → Prop} {s : Shared} {e it t : Addr} {i : Nat} {xs : Array Value} {old : Value} {Q : Option Value → Shared → Prop} (hh : A.handled = none) (he : IsEnum s.heap e it i old) (hit : s.heap.IsTupleIter it t i) (ht : s.heap.IsTuple t xs) (hx : xs[i]? = none)
      (hQ : ∀ h', Heap.ExtBut it s.heap h' → Q none { s with heap := h' }) : wpAny (model prog w) A (pyNext (.ref e)) Q E s := by
    have hT : s.TypeIs (.ref e) "enumerate" := ⟨_, he, rfl⟩
    unfold pyNext
    refine wpAny_bind (wpAny_attempt (wpAny_callSpecial?_slot (name := Str.ofString "__next__") hT F.slot_enumerate_next (wpAny_call_entry F.slot_enumerate_next hT F.entry_enumerate_next ?_ (F.args_enumerate_next_1 _))))
    show wpAny _ _ (field (.ref e) 2 >>= _) _ _ _
    refine wpAny_bind (wpAny_field he rfl (x := .ref it) rfl ?_)
    refine wpAny_bind (wpAny_nextOf_tuple_end hh hit ht hx fun h' x he' hx' => ?_)
    obtain ⟨ox, hox, hcx⟩ := hx'
    refine wpAny_bind (wpAny_isInstance (T := "StopIteration") (b := true) ⟨ox, hox, hcx⟩ isSubtype_stop ?_)
    exact wpAny_pure (hQ _ he')
def iEnumT (K : PySem.W.Frag) (ta : TA) : TI := fun σ H R => ta σ H fun vs H1 => ∃ a xs, vs = [.ref a] ∧ SqT K H1 a xs ∧ R (IteT K a) H1
theorem pi_enumT {X : Cx} {e : Expr} {ta : TA} {p pos tpos : Pos} {elts : List Expr} {kk : Nat} (hg : Gl X "enumerate") (hm : X.mg "enumerate" = none) (ha : PA X [e] ta) (hs : starEach [e] X.env = [(false, eval e X.env)] := by rfl) :
    PI X (.Tuple elts kk tpos) (.Call (.Name "enumerate" p) [e] [] pos) (iEnumT X.K ta) := by
  refine ⟨fun pins s σ H R I h => ?_⟩
  refine Call_ (ld_blt I hg hm boot_enumerate (PyProof.Rows.callWith_type1 (thn (ha.run pos pins s σ H _ I h) fun us s1 ⟨vs, H1, I1, r1, q1⟩ => ?_) hs rfl))
  obtain ⟨a, xs, ex, hq, q⟩ := q1
  subst ex
  cases r1 with
  | cons r rr =>
    cases rr
    cases r
    obtain ⟨its, rv, p', hz⟩ := I1.tuple hq
    have hT0 : s1.heap.IsTuple a its.toArray := p'
    have hal : a < s1.heap.objs.size := by obtain ⟨o, ho, _⟩ := hT0; exact Heap.lt_size ho
    refine tenum_call hT0 fun h' he hit hk => wpAny_pyIter_enum he ?_
    have I2 : Inv X pins σ H1 { s1 with heap := h' } := I1.kept (t' := s1.toks) hk
    refine ⟨s1.heap.objs.size + 1, [s1.heap.objs.size + 1, s1.heap.objs.size], _, _, H1, rfl, I2, turn_enumT a (s1.heap.objs.size + 1) s1.heap.objs.size (Nat.ne_of_lt hal) (Nat.ne_of_gt (Nat.lt_succ_of_lt hal)), ⟨⟨.none, he⟩, hit, Nat.succ_ne_self _⟩, fun b hb => ?_, q⟩
    have e' : b = s1.heap.objs.size + 1 ∨ b = s1.heap.objs.size := by simpa using hb
    have hle : s1.heap.objs.size ≤ b := by
      rcases e' with z | z
      · rw [z]; exact Nat.le_add_right _ _
      · rw [z]; exact Nat.le_refl _
    exact I1.fpOk hle (I1.hok.fresh hle)
end L2
namespace F
open PySem L2 Evl PyProof.Rows
theorem walks_eT {Z : Sx} {W : Wd} {a : Addr} {xs : List V} {ds : List D} (h : SqT Z.K W.G a xs) (r : RepA Z W xs ds) : Walks Z W (IteT Z.K a) (numbered 0 ds) := fun W1 cs H le s i => by
  have hq : SqT Z.K H a xs := ex_t (le.g.trans s.g) h
  refine ⟨fun d hd => ?_, fun hl => ⟨xs, hq, by rw [r.length]; rw [numbered_len] at hl; exact hl⟩⟩
  rw [numbered_get] at hd
  cases q : ds[i]? with
  | none => rw [q] at hd; cases hd
  | some d0 =>
    rw [q] at hd
    cases hd
    obtain ⟨v, hv, rv⟩ := r.get q
    refine ⟨⟨xs, v, hq, hv⟩, fun x H' y => ?_⟩
    obtain ⟨T, u, ex, fr, eH, y⟩ := y
    subst ex eH
    have hx := y xs hq
    rw [hv] at hx
    cases hx
    refine ⟨W1.new T _, s.leNew fr, rfl, s.new fr, .tup (st_of upd_same) (.cons ?_ (.cons ((rv.mono le).mono (s.leNew fr)) .nil))⟩
    rw [Nat.zero_add]
    exact .int _
def iEnuT (f : XE) : XA := fun l => bd (f l) fun d => rd fun _ => match d with
  | .tup xs => some (numbered 0 xs)
  | _ => none
theorem ji_enuT {X : Cx} {z : ZT} {e : Expr} {fe : XE} {p pos : Pos} {elts : List Expr} {kk : Nat} {tpos : Pos} (hg : Gl X "enumerate") (hm : X.mg "enumerate" = none) (h : JE X z e fe) (hs : starEach [e] X.env = [(false, eval e X.env)] := by rfl) : JI X z (.Tuple elts kk tpos) (.Call (.Name "enumerate" p) [e] [] pos) (iEnuT fe) :=
  ⟨fun B Er tk => pi_im (pi_enumT hg hm ((ja_cons h ja_nil hs).run B Er tk) hs) fun σ H R ⟨W, cs, l, s, lr, w⟩ => by
  refine ⟨W, cs, l, s, lr, wp_bd.mpr (wp_imp (wp_bd.mp w) (fun d cs1 w1 => ?_) fun _ _ h => h)⟩
  obtain ⟨ds, hr, k⟩ := wp_rd.mp w1
  intro W1 vs H1 le1 o1 s1 r1
  cases r1 with
  | cons r1 r2 =>
    cases r2
    cases r1 with
    | tup h1 r1 => cases hr; exact ⟨_, _, rfl, ex_t s1.g h1, k W1 _ H1 le1 o1 s1 (walks_eT h1 r1)⟩
    | _ => cases hr⟩
end F

/-! isinstance(x, (A, B)) of built-in types; functions that call themselves -/
namespace F
open PySem L2 Evl PyProof.Rows
def isiAny (n : String) : List String → Option Bool
  | [] => some false
  | t :: ts => match isiB n t with
    | some true => some true
    | some false => isiAny n ts
    | none => none
def dIsiT (ts : List String) (cs : Cells) (d : D) : Option D := match tagOf cs d with
  | some (.b n) => (isiAny n ts).map .bl
  | _ => none
theorem isiAny_ok {K : PySem.W.Frag} {n : String} : ∀ {ts : List String} {b : Bool}, isiAny n ts = some b → PySem.W.kitAny K (.type n) (ts.map Value.type) = some b
  | [], b, h => by cases h; exact kitAny_nil
  | t :: ts, b, h => by
    have h : (match isiB n t with | some true => some true | some false => isiAny n ts | none => none) = some b := h
    cases q : isiB n t with
    | none => rw [q] at h; cases h
    | some k =>
      rw [q] at h
      have e := kit_ty (K := K) (isiB_ok q)
      cases k with
      | true =>
        cases h
        exact kitAny_cons e (fun z => nomatch z) fun _ => rfl
      | false => exact kitAny_cons e (fun _ => isiAny_ok h) fun z => nomatch z
section
variable {X : Cx} {z : ZT} {e c1 c2 : Expr} {fe : XE} {p pos tpos : Pos} {kk : Nat} {a b : String}
theorem je_isiT (hg : Gl X "isinstance") (hm : X.mg "isinstance" = none) (h : JE X z e fe) (h1 : PE X c1 (tC (.ty a))) (h2 : PE X c2 (tC (.ty b)))
    (hs : starEach [e, .Tuple [c1, c2] kk tpos] X.env = (false, eval e X.env) :: starEach [.Tuple [c1, c2] kk tpos] X.env := by rfl) (hs2 : starEach [c1, c2] X.env = (false, eval c1 X.env) :: starEach [c2] X.env := by rfl)
    (hs3 : starEach [.Tuple [c1, c2] kk tpos] X.env = [(false, eval (.Tuple [c1, c2] kk tpos) X.env)] := by rfl) (hs4 : starEach [c2] X.env = [(false, eval c2 X.env)] := by rfl) (hst : (backTo pos (starEach [.Tuple [c1, c2] kk tpos] X.env)).any (·.1) = false := by rfl) :
    JE X z (.Call (.Name "isinstance" p) [e, .Tuple [c1, c2] kk tpos] [] pos) (x1 (dIsiT [a, b]) fe) :=
  ⟨fun B Er tk => pe_imp (pe_callB call_isiT hg hm (by decide +kernel) (pa_cons (h.run B Er tk) (pa_cons (pe_tup (pa_cons h1 (pa_cons h2 pa_nil hs4) hs2)) pa_nil hs3) hs) (by decide) (by decide) hs hst) fun σ H Q ⟨W, cs, l, s, lr, w⟩ => by
  refine ⟨W, cs, l, s, lr, wp_imp (wp_bd.mp w) (fun d cs1 w1 W1 v1 H1 le1 o1 s1 r1 => ?_) fun _ _ h => h⟩
  obtain ⟨r, hr, k⟩ := wp_rd.mp w1
  refine ⟨by show 2 ≤ sizeLine; decide, fun q hq => ?_⟩
  unfold dIsiT at hr
  split at hr
  · rename_i n q2
    cases q3 : isiAny n [a, b] with
    | none => rw [q3] at hr; cases hr
    | some bb =>
      rw [q3] at hr
      cases hr
      have s2 := s1.new (o := .tup [V.ty a, V.ty b]) hq
      exact ⟨_, q, _, _, _, bb, rfl, upd_same, .cons (.ty a) (.cons (.ty b) .nil), tag_b s2 (r1.mono (s1.leNew hq)) q2, isiAny_ok q3, k _ _ _ (le1.trans (s1.leNew hq)) o1 s2 (.bl bb)⟩
  · cases hr⟩
end
/-! ### functions that call themselves -/
theorem fnG_no {P : Program} {w : World} {K : PySem.W.Frag} {mg : Str → Option Value} {base : Heap} {k : Nat} {f : Addr} {kn : List Str} : FnG P w K mg base k f kn (fun _ _ => no) := by
  intro A outer s H us vs ws zs Q E hr e0 r rz l ⟨W, cs, ds, es, ss, ra, rb, w⟩
  exact False.elim w
def recF (stp : (List D → List D → EM D) → List D → List D → EM D) : Nat → List D → List D → EM D
  | 0 => fun _ _ => no
  | n + 1 => stp (recF stp n)
theorem CalG.mono {P : Program} {w : World} {K : PySem.W.Frag} {mg : Str → Option Value} {base : Heap} {j k : Nat} {x : Str} {kn : List Str} {Fn : List D → List D → EM D} (c : CalG P w K mg base j x kn Fn) (h : j ≤ k) : CalG P w K mg base k x kn Fn := by
  obtain ⟨f, h1, h2, h3⟩ := c.ex
  exact ⟨f, h1.mono h, h2, h3⟩
theorem calG_rec {P : Program} {w : World} {K : PySem.W.Frag} {mg : Str → Option Value} {base : Heap} {x : Str} {f : Addr} {L : Nat} {stp : (List D → List D → EM D) → List D → List D → EM D} (hm : mg x = some (.ref f)) (hk : PySem.W.keepIn K (.ref f) = true)
    (h : ∀ (k : Nat) (R : List D → List D → EM D), CalG P w K mg base k x [] R → FnG P w K mg base (L + k + 1) f [] (stp R)) : ∀ n : Nat, CalG P w K mg base ((L + 1) * n) x [] (recF stp n)
  | 0 => ⟨f, fnG_no, hm, hk⟩
  | n + 1 => ⟨f, (h _ _ (calG_rec hm hk h n)).mono (by rw [Nat.mul_add]; omega), hm, hk⟩
end F

/-! functions as values: a local name that holds a function of the module -/
namespace F
open PySem PySem.Spec PyProof.Rows L2 Evl
structure FvOk (P : Program) (w : World) (K : PySem.W.Frag) (mg : Str → Option Value) (base : Heap) (k : Nat) (kn : List Str) (t : EqT) : Prop where
  ok : ∀ q ∈ t, CalG P w K mg base k q.1 kn q.2
def xCallV (t : EqT) (n : Nat) (i : Nat) (fa fk : XA) : XE := fun l => match l[i]? with
  | some (.val (.cls g)) => (match t.at_ g with
    | some Fn => xCall (kChk n Fn) fa fk l
    | none => no)
  | _ => no
theorem FvOk.at_ {P : Program} {w : World} {K : PySem.W.Frag} {mg : Str → Option Value} {base : Heap} {k : Nat} {kn : List Str} {t : EqT} (o : FvOk P w K mg base k kn t) {g : Str} {Fn : List D → List D → EM D} (h : t.at_ g = some Fn) : CalG P w K mg base k g kn Fn := by
  unfold EqT.at_ at h
  cases q : t.find? fun q => decide (q.1 = g) with
  | none => rw [q] at h; cases h
  | some r =>
    rw [q] at h
    cases h
    have hr := List.find?_some q
    have := o.ok r (List.mem_of_find?_eq_some q)
    rw [of_decide_eq_true hr] at this
    exact this
section
variable {X : Cx} {z : ZT} {k j i : Nat} {kn : List Str} {t : EqT} {x : Str} {p pos : Pos} {e : Expr} {es : List Expr} {kws : List Keyword} {fa fk : XA}
theorem je_callV (c : FvOk X.prog X.w X.K X.mg X.base k kn t) (hr : RmG j X.A) (hk : k ≤ j) (hv : PE X (.Name x p) (tVar i)) (ha : JA X z (e :: es) fa) (hkw : JK X z kws fk)
    (hall : (backToKw pos (keywordEach kws X.env)).all (·.1.isSome) = true := by rfl) (hks : (backToKw pos (keywordEach kws X.env)).filterMap (·.1) = kn := by rfl)
    (he : starEach (e :: es) X.env = (false, eval e X.env) :: starEach es X.env := by rfl) : JE X z (.Call (.Name x p) (e :: es) kws pos) (xCallV t kn.length i fa fk) := ⟨fun B Eo tk => ⟨fun pins s σ H Q I h => by
  obtain ⟨W, cs, l, ss, lr, w⟩ := h
  unfold xCallV at w
  split at w
  · rename_i g hl
    split at w
    · rename_i Fn hF0
      obtain ⟨f, hF, hm, kp⟩ := (c.at_ hF0).ex
      obtain ⟨u, hu, r⟩ := lr.sl i _ hl
      have ef : u = .ref f := by
        cases r with
        | cls hm2 =>
          have hm3 : X.mg g = some (.ref _) := hm2
          rw [hm] at hm3
          cases hm3
          rfl
      subst ef
      refine wpAny_Call_Name_kw (thn (hv.run pins s σ H (fun v H1 => v = .ref f ∧ H1 = H) I ⟨_, hu, rfl, rfl⟩) fun u s1 ⟨y, H1, I1, rx, ex, eh⟩ => ?_)
      subst ex eh
      obtain rfl : u = Value.ref f := rx
      refine PySem.W.callWith_A (K := X.K) kp hall (thn ((ha.run B Eo tk).run pos pins s1 σ H1 _ I1 (args2 ⟨W, cs, l, ss, lr, w⟩)) fun us s2 ⟨vs, H2, I2, r, q⟩ => ?_) he
      refine thn ((hkw.run B Eo tk).run pos pins s2 σ H2 _ I2 q) fun ws s3 ⟨zs, H3, I3, rz, a⟩ => ⟨I3.kIn, ?_⟩
      obtain ⟨l, a⟩ := a.chk
      rw [hks]
      exact run_G hF (hr.mono hk) tk I3 r rz l a
    · exact w.elim
  · exact w.elim⟩⟩
end
/-! a, b = a list -/
def gL (n : Nat) (g : XGs) : XG := fun d l cs => match d with
  | .lst ds => if ds.length = n then g ds l cs else none
  | _ => none
theorem jg_lst {X : Cx} {z : ZT} {tgs : List Expr} {gs : XGs} {pos : Pos} {n kk : Nat} {ts : List Nat} (hc : X.calm = true) (h : JGs X z tgs ts gs) (hn : (assignEach tgs X.env).length = n := by rfl) (hst : (assignEach tgs X.env).findIdx? (·.1) = none := by rfl) : JG X z (.Tuple tgs kk pos) ts (gL n gs) := ⟨fun B => pg_im (pg_lst hc (h.run B) hn hst) fun v σ H R ⟨W, cs, l, d, l', s, lr, r, e, k⟩ => by
  unfold gL at e
  split at e
  · rename_i ds
    split at e
    · rename_i hl
      cases r with
      | lst h1 r1 => exact ⟨_, _, rfl, sq_of (s.g _ _ h1), by rw [r1.length]; exact hl, W, cs, l, ds, l', s, lr, r1, e, k⟩
    · cases e
  · cases e⟩
/-- the i-th default of the def at ad, if it is an object -/
def dfAd (ad : PySem.W.Frag → Addr) (i : Nat) (K : PySem.W.Frag) : Addr := match K.lookup (ad K) with
  | some ⟨_, _, .func fd, _⟩ => (match fd.defaults with
    | .ref T => (match K.lookup T with
      | some ⟨_, _, .seq its _, _⟩ => (match its.toList[i]? with
        | some (.ref a) => a
        | _ => 0)
      | _ => 0)
    | _ => 0)
  | _ => 0
/-! x in a list that the frame owns -/
def bInL (neg : Bool) (i : Nat) (fe : XE) : XB := fun l => bd (fe l) fun d => match l[i]? with
  | some (.own (.lst ys)) => if (flatD d && ys.all flatD) = true then rt ((ys.any fun y => eqF y d) != neg) else no
  | _ => no
theorem jt_inL {X : Cx} {z : ZT} {a e : Expr} {fe : XE} {i : Nat} {neg : Bool} (hp : ∀ {t : TE}, PE X e t → PT X a (tTest (tOp (rIn X.K neg) t (tVar i)))) (he : JE X z e fe) : JT X z a (bInL neg i fe) := ⟨fun B Er tk => pt_imp (hp (he.run B Er tk)) fun σ H Q ⟨W, cs, l, s, lr, w⟩ => by
  refine ⟨W, cs, l, s, lr, wp_imp (wp_bd.mp w) (fun d cs1 w1 W1 v1 H1 le1 o1 s1 r1 => ?_) fun _ _ h => h⟩
  split at w1
  · rename_i ys hl
    split at w1
    · rename_i c
      obtain ⟨a, o, ha, hO, _, ho⟩ := lr.sl i _ hl
      obtain ⟨xs, rfl, ra⟩ := ho
      have hO1 : W1.O a = some (.lst xs) := by rw [o1]; exact hO
      have q := w1 W1 H1 le1 o1 s1
      obtain ⟨c1, c2⟩ := Bool.and_eq_true_iff.mp c
      have ra1 := ra.mono le1
      have e : inV v1 xs = ys.any fun y => eqF y d := inF_ok r1 c1 ra1 c2
      refine ⟨_, ha, a, xs, rfl, .inl (sq_of (s1.o _ _ hO1)), flat_ok r1 c1, flats_ok ra1 c2, _, rfl, ?_⟩
      rw [e]
      cases neg with
      | false => rw [Bool.bne_false] at q; exact q
      | true => rw [Bool.bne_true] at q; exact q
    · exact w1.elim
  · exact w1.elim⟩
end F

/-! a slice of a list, as a cell -/
namespace F
open PySem PySem.Spec PyProof.Rows L2 Evl
def xSlC (f : XE) (lo hi : XO) : XE := fun l => bd (f l) fun d => bd (lo l) fun a => bd (hi l) fun b => bd (rd fun cs => lsR cs d) fun xs => newC (.lst (cutD xs a b))
section
variable {X : Cx} {z : ZT} {e : Expr} {o1 o2 : Option Expr} {fe : XE} {f1 f2 : XO} {p2 pos : Pos}
theorem je_slC (he : JE X z e fe) (h1 : JO X z o1 f1) (h2 : JO X z o2 f2) : JE X z (.Subscript e (.Slice o1 o2 none p2) pos) (xSlC fe f1 f2) := ⟨fun B Er tk => pe_imp (pe_slice sl_list (he.run B Er tk) (h1.run B Er tk) (h2.run B Er tk)) fun σ H Q ⟨W, cs, l, s, lr, w⟩ => by
  refine ⟨W, cs, l, s, lr, wp_imp (wp_bd.mp w) (fun d cs1 w1 W1 v1 H1 le1 o1 s1 r1 => ?_) fun _ _ h => h⟩
  refine ⟨W1, cs1, l, s1, lr.mono le1 o1, wp_imp (wp_bd.mp w1) (fun a cs2 w2 W2 H2 le2 o2 s2 => ?_) fun _ _ h => h⟩
  refine ⟨W2, cs2, l, s2, lr.mono (le1.trans le2) (o2.trans o1), wp_imp (wp_bd.mp w2) (fun b cs3 w3 W3 H3 le3 o3 s3 => ?_) fun _ _ h => h⟩
  obtain ⟨xs, hx, k⟩ := wp_rd.mp (wp_bd.mp w3)
  obtain ⟨q, us, rfl, hq, ra⟩ := lsR_ok s3 (r1.mono (le2.trans le3)) hx
  exact ⟨q, us, rfl, hq, fun p hp => k _ _ _ (((le1.trans le2).trans le3).trans (Le.cel W3 p)) (o3.trans (o2.trans o1)) (s3.cell (c := .lst (cutD xs a b)) hp ⟨_, rfl, (ra.cut a b).mono (Le.cel W3 p)⟩) (rep_last s3)⟩⟩
end
/-! facts of a property -/
open He in
/-- the getter of the property f of the class at C -/
def prAd (K : PySem.W.Frag) (C : Addr) (f : Str) : Addr := match PySem.W.findIn K (.ref C) f with
  | some (some (.ref p)) => (match PySem.W.recIn K p "property" with
    | some (.ref g :: _) => g
    | _ => 0)
  | _ => 0
open He in
def propB (K : PySem.W.Frag) (C : Addr) (f : Str) : Bool := E.clsFB K C && (match PySem.W.findIn K (.ref C) f with
  | some (some (.ref p)) => eqO (PySem.W.specialIn K (.ref p) "__get__") (some (some (.builtin "property.__get__"))) && (decide (PySem.W.takesIn K (.ref p) = some true) && (match PySem.W.recIn K p "property" with
    | some (.ref _ :: _) => true
    | _ => false))
  | _ => false)
open He in
theorem propB_ok {K : PySem.W.Frag} {C : Addr} {f : Str} (h : propB K C f = true) : Cls K C ∧ ∃ p, PropOf K C f p (prAd K C f) := by
  obtain ⟨h1, h2⟩ := Bool.and_eq_true_iff.mp h
  refine ⟨(E.clsFB_ok h1).cls, ?_⟩
  split at h2
  · rename_i p hp
    obtain ⟨h3, h4⟩ := Bool.and_eq_true_iff.mp h2
    obtain ⟨h5, h6⟩ := Bool.and_eq_true_iff.mp h4
    split at h6
    · rename_i g r hr
      have e : prAd K C f = g := by
        unfold prAd
        rw [hp]
        dsimp only
        rw [hr]
      rw [e]
      exact ⟨p, hp, eqO_ok h3, of_decide_eq_true h5, r, hr⟩
    · cases h6
  · cases h2
end F

/-! except (A, B, ..) as n: a tuple of classes -/
namespace PySem.W
open PySem PySem.Spec PySem.Calls PyProof.Rows
section
variable {M : Model} {K : Frag}
theorem exmAny_mem {cls : Value} : ∀ {cs : List Value} {b : Bool}, exmAny K cls cs = some b → ∀ c ∈ cs, ∃ b', exmOne K cls c = some b'
  | [], _, _, _, h => by simp at h
  | c :: cs, b, h, x, hx => by
    obtain ⟨b1, d1, x1, y1, z1⟩ := exmAny_cons h
    rcases List.mem_cons.mp hx with rfl | hx
    · exact ⟨b1, x1⟩
    · exact exmAny_mem y1 x hx
theorem exm_tupN {cs : List Value} {cls : Value} {tp e : Addr} {b : Bool} {h : Heap} (X : K.In h) (LT : Looks M h (typeOf (.ref e)) cls) (hp : h.get? tp = some { cls := .type "tuple", data := .seq cs.toArray }) (hx : exmAny K cls cs = some b) :
    Looks M h (excMatches (.ref e) (.ref tp)) b := by
  intro A Q E s k₀ q
  have k : ∀ b o, h.get? b = some o → s.heap.get? b = some o := k₀
  have LT0 : Looks M h (isInstance (.ref tp) (.type "tuple")) true := ((Looks.ld hp).andThen .now).andThen (Looks.of_pure isSubtype_tuple_tuple)
  have LT := LT.keeps k
  have LT0 := LT0.keeps k
  have hp' := k _ _ hp
  have ex : ∀ c ∈ cs, ∃ b', Looks M s.heap (isExcClass c) true ∧ Looks M s.heap (isSubtype cls c) b' ∧ exmOne K cls c = some b' := fun c hc => by
    obtain ⟨b', e⟩ := exmAny_mem hx c hc
    obtain ⟨e1, S1⟩ := exm_cls (M := M) X e
    exact ⟨b', e1.keeps k, S1.keeps k, e⟩
  obtain ⟨hh, g, d, tk, os⟩ := s
  unfold excMatches
  refine wpAny_bind (LT0.at ?_)
  dsimp only
  rw [if_pos rfl]
  first
    | refine wpAny_bind (wpAny_seqItems hp' rfl ?_)
    | refine wpAny_bind (wpAny_bind (wpAny_seqItems hp' rfl (wpAny_pure ?_)))
  dsimp only [Option.getD_some, Option.getD]
  refine wpAny_bind (wpAny_pure ?_)
  refine wpAny_bind (wpAny_forIn_list _ (fun rest _ s' => s' = ⟨hh, g, d, tk, os⟩ ∧ ∀ c ∈ rest, c ∈ cs) _ ?turn ?fin _ _ ⟨rfl, fun c hc => by simpa using hc⟩)
  case turn =>
    rintro c rest u s' ⟨rfl, hs⟩
    obtain ⟨b', e1, S1, _⟩ := ex c (hs c List.mem_cons_self)
    have hs' : ∀ x ∈ rest, x ∈ cs := fun x hx => hs x (List.mem_cons_of_mem _ hx)
    refine wpAny_bind (e1.at ?_)
    simp only [Bool.not_true, Bool.false_eq_true, if_false]
    exact wpAny_pure ⟨rfl, hs'⟩
  case fin =>
    rintro u s' ⟨rfl, _⟩
    refine wpAny_bind (LT.at ?_)
    refine wpAny_bind (wpAny_mono (wpAny_forIn_list _ (fun rest r s' => s' = ⟨hh, g, d, tk, os⟩ ∧ r.fst = none ∧ (∀ c ∈ rest, c ∈ cs) ∧ exmAny K cls rest = some b) (fun r s' => s' = ⟨hh, g, d, tk, os⟩ ∧ r.fst = if b = true then some true else none) ?turn2 ?fin2 _ _ ⟨rfl, rfl, fun c hc => by simpa using hc, by simpa using hx⟩) (fun r s' ⟨e1, e2⟩ => ?last) fun _ _ h => h)
    case turn2 =>
      rintro c rest r s' ⟨rfl, hr, hs, hb⟩
      obtain ⟨b', e1, S1, e2⟩ := ex c (hs c List.mem_cons_self)
      obtain ⟨b1, d1, x1, y1, z1⟩ := exmAny_cons hb
      rw [e2] at x1
      cases x1
      refine wpAny_bind (S1.at ?_)
      cases b' with
      | true =>
        simp only [if_true]
        refine wpAny_pure ⟨rfl, ?_⟩
        rw [z1]
        rfl
      | false =>
        simp only [Bool.false_eq_true, if_false]
        refine wpAny_pure ⟨rfl, rfl, fun x hx => hs x (List.mem_cons_of_mem _ hx), ?_⟩
        rw [y1, z1, Bool.false_or]
    case fin2 =>
      rintro r s' ⟨rfl, hr, hs, hb⟩
      have : some false = some b := hb
      cases this
      exact ⟨rfl, hr⟩
    case last =>
      subst e1
      rw [e2]
      cases b with
      | true => exact wpAny_pure q
      | false => exact wpAny_pure q
end
end PySem.W

namespace E
open PySem PySem.Spec PyProof.Rows L2 He
theorem flyZ_keeps {B : Heap} {l : List Env} {a : Addr} {Z : Obj → Prop} {h h' : Heap} (k : ∀ b o, h.get? b = some o → h'.get? b = some o) (f : HandSPX.FlyingZ B l a Z h) : HandSPX.FlyingZ B l a Z h' := by
  obtain ⟨k1, k2, k3, oe, vs, T, oT, ts, he, hz, hd, h1, h2, h4, h5, h6, h7⟩ := f
  exact ⟨fun b o e => k _ _ (k1 b o e), k2, Heap.FunFrames.of_keeps (fun b o e _ => ⟨o, k _ _ e, rfl⟩) k3, oe, vs, T, oT, ts, k _ _ he, hz, hd, h1, h2, h4, k _ _ h5, h6, h7⟩
theorem up_ext {h h3 h' : Heap} (u : h.UpToSlots h3) (k : ∀ b o, h3.get? b = some o → h'.get? b = some o) : h.UpToSlots h' := fun b o e hd => by
  obtain ⟨sl, q⟩ := u b o e hd
  exact ⟨sl, k _ _ q⟩
/-- what an except clause asks: te is read, dec tells whether a class is caught -/
def TstOk (X : Cx) (te : Expr) (dec : Value → Option Bool) : Prop := ∀ (a : Addr) (pn : List (Addr × Obj)) (s : Shared) (σ : L2.St) (H : Hp) (cls : Value) (b : Bool) (Q : Bool → Shared → Prop) (E E2 : Value → Shared → Prop), Inv (X.suite a pn) [] σ H s → PySem.W.Looks (model X.prog X.w) s.heap (typeOf (.ref a)) cls → dec cls = some b →
  (∀ h', (∀ q o, s.heap.get? q = some o → h'.get? q = some o) → Q b { s with heap := h' }) → wpAny (model X.prog X.w) (X.A.mark (some (.ref a))) (eval te X.env) (fun c s₁ => wpAny (model X.prog X.w) (X.A.mark (some (.ref a))) (excMatches (.ref a) c) Q E2 s₁) E s
theorem nm_at {X : Cx} {x : Str} {c : Value} {np : Pos} (hc : Names X x c) {a : Addr} {pn : List (Addr × Obj)} {s : Shared} {σ : L2.St} {H : Hp} {Q : Value → Shared → Prop} {E : Value → Shared → Prop} (I : Inv (X.suite a pn) [] σ H s) (q : Q c s) : wpAny (model X.prog X.w) (X.A.mark (some (.ref a))) (eval (.Name x np) X.env) Q E s := by
  obtain ⟨hg, hdbg, hm | ⟨hm, hv, hnn⟩⟩ := hc
  · exact ld_glob (X := X.suite a pn) I hg hm q hdbg
  · exact ld_blt (X := X.suite a pn) I hg hm hv q hnn hdbg
theorem tst_name {X : Cx} {x : Str} {c : Value} {np : Pos} (hc : Names X x c) : TstOk X (.Name x np) (fun cls => PySem.W.exmOne X.K cls c) := fun a pn s σ H cls b Q E E2 I LT e q =>
  nm_at hc I ((PySem.W.exm_one (M := model X.prog X.w) I.kIn LT e).here (q s.heap fun _ _ z => z))
inductive NmsL (X : Cx) : List Expr → List Value → Prop
  | nil : NmsL X [] []
  | cons {x : Str} {c : Value} {np : Pos} {es : List Expr} {cs : List Value} : Names X x c → NmsL X es cs → NmsL X (.Name x np :: es) (c :: cs)
theorem tst_tup {X : Cx} {es : List Expr} {cs : List Value} {kk : Nat} {tpos : Pos} (hc : NmsL X es cs) (hl : cs.length ≤ 1000) : TstOk X (.Tuple es kk tpos) (fun cls => PySem.W.exmAny X.K cls cs) := fun a pn s σ H cls b Q E E2 I LT e q => by
  refine wpAny_Tuple ?_
  have items : ∀ {es : List Expr} {cs : List Value}, NmsL X es cs → ∀ {R : List Value → Shared → Prop} {E : Value → Shared → Prop}, R cs s → wpAny (model X.prog X.w) (X.A.mark (some (.ref a))) (spliced (backTo tpos (starEach es X.env))) R E s := by
    intro es cs h
    induction h with
    | nil => exact fun {R E} r => wpAny_items_nil r
    | cons hx hr ih => exact fun {R E} r => wpAny_items_cons (nm_at hx I (ih r))
  refine items hc ⟨Nat.le_trans hl (by decide), ?_⟩
  have kp : ∀ q o, s.heap.get? q = some o → (s.heap.push { cls := .type "tuple", data := .seq cs.toArray }).get? q = some o := fun _ _ z => Heap.get?_push_of_some _ z
  exact (PySem.W.exm_tupN (I.kIn.keeps kp) (LT.keeps kp) (Heap.get?_push_size s.heap rfl) e).here (q _ kp)
abbrev ClT := (Value → Option Bool) × Nat × (Addr → Value → Option Addr → TS)
def wManyT (Wout : WX) (D : Ends) : List ClT → WX
  | [] => Wout
  | (dec, i, ts) :: r => fun cls d σ H => ∃ b, dec cls = some b ∧ (b = true → ∀ a, H a = none → ts a cls d (endsI i D) (σ.set i (some (.ref a))) H) ∧ (b = false → wManyT Wout D r cls d σ H)
inductive HdsT (X : Cx) : List ExceptHandler → List ClT → Prop
  | nil : HdsT X [] []
  | cons {te : Expr} {n : Str} {dec : Value → Option Bool} {i : Nat} {ts : Addr → Value → Option Addr → TS} {b₀ : Stmt} {suite : List Stmt} {pos' : Pos} {hds : List ExceptHandler} {l : List ClT} (hc : TstOk X te dec) (hi : X.N[i]? = some n) (hln : X.env.kindOf n = some .local)
      (hsu : ∀ (a : Addr) (oe : Obj) (cls : Value) (d : Option Addr) (pn : List (Addr × Obj)), Zc cls d oe → (∃ vs, oe.data = .fields vs) → PSs (X.suite a ((a, oe) :: pn)) (b₀ :: suite) (ts a cls d)) (r : HdsT X hds l) :
      HdsT X (.ExceptHandler (some te) (some n) (b₀ :: suite) pos' :: hds) ((dec, i, ts) :: l)
section
variable {X : Cx} {body : List Stmt} {h₀ : ExceptHandler} {hds : List ExceptHandler} {l : List ClT} {pos : Pos} {tb : WX → TS} {Wout : WX}
theorem ps_try_manyT (hs : X.stack = X.env :: X.outer) (hf : X.env.frame = some X.env.locals) (hN : X.N.Nodup) (tk : Takes X Wout)
    (hb : ∀ (W : WX) (pn : List (Addr × Obj)) (xe : Value → Shared → Prop), Takes (X.tr pn xe) W → PassesOwn (model X.prog X.w) X.A X.env xe → PSs (X.tr pn xe) body (tb W))
    (hh : HdsT X (h₀ :: hds) l) : PS X (.Try body (h₀ :: hds) [] [] pos) (fun D σ H => tb (wManyT Wout D l) D σ H) := by
  refine ⟨fun pins s σ H D I h => ?_⟩
  have ok := I.ok
  have hfr : X.A.frames = some (X.env :: X.outer) := by rw [ok.frames, hs]
  refine wpAny_Try_except ?_
  refine wpAny_mono ((hb (wManyT Wout D l) (X.pn ++ pins) (fun e s₁ => wpAny (model X.prog X.w) X.A (noteFrame e X.env) (fun _ s₂ => wpAny (model X.prog X.w) X.A (setFlight e none) (fun _ s₃ =>
    wpAny (model X.prog X.w) X.A (handleBy e X.env (h₀ :: hds)) (SP X pins D) X.xe s₃) X.xe s₂) X.xe s₁) (fun u s' xx => ?_) PassesOwn.looking).run [] s σ H D (I.toTry _) h) (fun f s1 hsp => ?_) (fun e s1 he => he)
  · obtain ⟨a, B, sI, pins', σ', H', cls, d, rfl, J', nb, up, sky, na, os, ag, w⟩ := xx
    have J : Inv X pins σ' H' sI := J'.ofTry ok
    have sky' : Sky B (X.env :: X.outer) a (Zc cls d) X.env.locals s'.heap := by rw [← hs]; exact sky
    show wpAny (model X.prog X.w) X.A (noteFrame (.ref a) X.env) _ _ _
    refine Sky.land Zc.steady hfr hf sky' fun h3 fl3 up3 => ?_
    obtain ⟨oe3, vs3, he3, hz3, hd3⟩ := fl3.there
    have notFr : ∀ {h : Heap} {o : Obj} {vs : Array Value}, h.FunFrames B (X.env :: X.outer) → h.get? a = some o → o.data = .fields vs → a ∉ frs (X.env :: X.outer) := fun {h o vs} ff e dd hm => by
      obtain ⟨_, o', e', hnf⟩ := ff.mem hm
      rw [e] at e'; cases e'
      exact hnf _ dd
    have nfr := notFr fl3.2.2.1 he3 hd3
    have nL : a ≠ X.env.locals := fun z => nfr (List.mem_filterMap.mpr ⟨X.env, List.mem_cons_self, by rw [hf, z]⟩)
    have nF : a ∉ X.fs := fun hm => by
      obtain ⟨e, he, q⟩ := List.mem_filterMap.mp hm
      exact nfr (List.mem_filterMap.mpr ⟨e, List.mem_cons_of_mem _ he, q⟩)
    have go : ∀ {hds' : List ExceptHandler} {l' : List ClT}, HdsT X hds' l' → ∀ (h3 : Heap), HandSPX.FlyingZ B (X.env :: X.outer) a (Zc cls d) h3 → s'.heap.UpToSlots h3 → wManyT Wout D l' cls d σ' H' →
        wpAny (model X.prog X.w) X.A (handleBy (.ref a) X.env hds') (SP X pins D) X.xe { s' with heap := h3 } := by
      intro hds' l' hk
      induction hk with
      | nil =>
        intro h3 fl3 up3 w
        refine wpAny_handleBy_nil ?_
        obtain ⟨k1, k2, k3, oe, vs, T, oT, ts', he, hz, hd, h1, hr⟩ := id fl3
        unfold PySem.passOn
        refine wpAny_bind (wpAny_field he hd h1 ?_)
        rw [if_neg (show ¬ ((Value.ref T == Value.none) = true) from by simp)]
        have fin : wpAny (model X.prog X.w) X.A (setFlight (.ref a) X.env.frame) (fun _ s4 => wpAny (model X.prog X.w) X.A (throw (.ref a) : Sem Flow) (SP X pins D) X.xe s4) X.xe { s' with heap := h3 } := by
          rw [hf]
          refine HandSPX.setFlight_upZ fl3 fun h4 hh4 up4 => wpAny_throw (tk _ _ ?_)
          exact ⟨a, B, sI, pins, σ', H', cls, d, rfl, J, nb, (up.trans up3).trans up4, .inr (.inr (by rw [hs]; exact hh4)), na, os, ag, w⟩
        first
          | exact wpAny_bind (wpAny_pure (wpAny_bind fin))
          | exact wpAny_bind fin
      | @cons te n dec i ts b₀ suite pos' hds2 l2 hc hi hln hsu r ih =>
        intro h3 fl3 up3 w
        have J3 : Inv X pins σ' H' { s' with heap := h3 } := J.landed nb fl3.1 (up.trans up3) os ag
        obtain ⟨oe3, vs3, he3, hz3, hd3⟩ := fl3.there
        have S3 := J3.suite he3 hd3 na nL nF
        obtain ⟨b, hb1, hyes, hno⟩ := w
        refine wpAny_handleBy_cons (codeAny_handlers_test ?_) (by intro q; cases q)
        have LT : PySem.W.Looks (model X.prog X.w) h3 (typeOf (.ref a)) cls := fun A Q E s k q => wpAny_typeOf_ref (k _ _ he3) (by rw [hz3.1]; exact q)
        refine hc a ((a, oe3) :: (X.pn ++ pins)) { s' with heap := h3 } σ' H' cls b _ _ _ S3 LT hb1 fun hx keep => ?_
        have flx : HandSPX.FlyingZ B (X.env :: X.outer) a (Zc cls d) hx := flyZ_keeps keep fl3
        have upx : s'.heap.UpToSlots hx := up_ext up3 keep
        cases b with
        | true =>
          refine codeAny_handlers_suite_as ?_
          refine HandSPX.lands_againZ flx fun h4 fl4 up4 => ?_
          have J4 : Inv X pins σ' H' { s' with heap := h4 } := J.landed nb fl4.1 ((up.trans upx).trans up4) os ag
          obtain ⟨oe4, vs4, he4, hz4, hd4⟩ := fl4.there
          have S4 := J4.suite he4 hd4 na nL nF
          refine store_ok (X := X.suite a ((a, oe4) :: (X.pn ++ pins))) (v := .ref a) S4 hN hi (.inl hln) rfl (fun s5 S5 => ?_) (.inr hln)
          refine wpAny_mono ((hsu a oe4 cls d (X.pn ++ pins) hz4 ⟨_, hd4⟩).run [] s5 _ H' _ S5 (hyes rfl a na)) (fun f s6 hsp => ?_) (fun _ _ z => False.elim z)
          have end_ : ∀ {σ6 : L2.St} {H6 : Hp} {Q : Shared → Prop}, Inv (X.suite a ((a, oe4) :: (X.pn ++ pins))) [] σ6 H6 s6 → (∀ s7, Inv X pins (σ6.set i none) H6 s7 → Q s7) →
              wpAny (model X.prog X.w) X.A (do bindName X.env n .none; unbindBehindTheSuite X.env n pos') (fun _ s7 => Q s7) X.xe s6 := fun {σ6 H6 Q} S6 hq => gone_ok (S6.unsuite ok) hN hi hln hq
          cases f with
          | next =>
            obtain ⟨σ6, H6, S6, q6⟩ := hsp
            exact end_ S6 fun s7 J7 => ⟨_, _, J7, q6⟩
          | brk =>
            obtain ⟨σ6, H6, S6, q6⟩ := hsp
            exact end_ S6 fun s7 J7 => ⟨_, _, J7, q6⟩
          | cont =>
            obtain ⟨σ6, H6, S6, q6⟩ := hsp
            exact end_ S6 fun s7 J7 => ⟨_, _, J7, q6⟩
          | ret u =>
            obtain ⟨v6, σ6, H6, S6, r6, q6⟩ := hsp
            exact end_ S6 fun s7 J7 => ⟨_, _, _, J7, r6, q6⟩
        | false =>
          show wpAny _ X.A (handleBy (.ref a) X.env hds2) _ _ _
          exact ih hx flx upx (hno rfl)
    exact go hh h3 fl3 up3 w
  · cases f with
    | next =>
      obtain ⟨σ', H', J', q⟩ := hsp
      exact wpAny_execs_nil ⟨σ', H', J'.ofTry ok, q⟩
    | brk =>
      obtain ⟨σ', H', J', q⟩ := hsp
      exact ⟨σ', H', J'.ofTry ok, q⟩
    | cont =>
      obtain ⟨σ', H', J', q⟩ := hsp
      exact ⟨σ', H', J'.ofTry ok, q⟩
    | ret u =>
      obtain ⟨v, σ', H', J', r, q⟩ := hsp
      exact ⟨v, σ', H', J'.ofTry ok, r, q⟩
end
end E

/-! try with clauses that name a tuple of classes -/
namespace F
open PySem PySem.Spec PyProof.Rows L2 Evl
/-- any of some classes -/
def Te.ms (T : Te) (x : Str) : List Tag → Option Bool
  | [] => some false
  | t :: r => match T.m x t, T.ms x r with
    | some b, some d => some (b || d)
    | _, _ => none
abbrev ClzT := List Tag × Nat × XS
def handT (T : Te) (x : Exn) (l : Loc) (cs : Cells) : List ClzT → SO
  | [] => .go (.ex x l) cs
  | (ts, i, su) :: r => match T.ms x.c ts with
    | some true => if i < l.length then endX i (su (l.set i (.exn x)) cs) else .no
    | some false => handT T x l cs r
    | none => .no
def sTryT (T : Te) (b : XS) (cl : List ClzT) : XS := fun l cs => match b l cs with
  | .go (.ex x l') cs' => handT T x l' cs' cl
  | r => r
def tagsV (Z : Sx) : List Tag → List Value → Prop
  | [], [] => True
  | t :: ts, c :: cs => tagV Z t = some c ∧ tagsV Z ts cs
  | _, _ => False
theorem tags_nil {Z : Sx} : tagsV Z [] [] := trivial
theorem tags_cons {Z : Sx} {t : Tag} {c : Value} {ts : List Tag} {cs : List Value} (h : tagV Z t = some c) (r : tagsV Z ts cs) : tagsV Z (t :: ts) (c :: cs) := ⟨h, r⟩
theorem TeOk.ms_ok {Z : Sx} {T : Te} (t : TeOk Z T) {x : Str} {Cl : Addr} (hm : Z.mg x = some (.ref Cl)) : ∀ {ts : List Tag} {cs : List Value} {b : Bool}, tagsV Z ts cs → T.ms x ts = some b → PySem.W.exmAny Z.K (.ref Cl) cs = some b
  | [], [], b, _, h => by cases h; rfl
  | y :: ts, c :: cs, b, ⟨h1, h2⟩, h => by
    have h : (match T.m x y, T.ms x ts with | some b, some d => some (b || d) | _, _ => none) = some b := h
    cases q1 : T.m x y with
    | none => rw [q1] at h; cases h
    | some b1 =>
      cases q2 : T.ms x ts with
      | none => rw [q1, q2] at h; cases h
      | some b2 =>
        rw [q1, q2] at h
        cases h
        obtain ⟨Cl', u, e1, e2, e3⟩ := t.m_ok q1
        rw [hm] at e1
        cases e1
        rw [h1] at e2
        cases e2
        have r := TeOk.ms_ok t hm h2 q2
        show (match PySem.W.exmOne Z.K (.ref Cl) c, PySem.W.exmAny Z.K (.ref Cl) cs with | some b, some d => some (b || d) | _, _ => none) = _
        rw [e3, r]
  | [], _ :: _, _, h, _ => h.elim
  | _ :: _, [], _, h, _ => h.elim
inductive JHT (X : Cx) (z : ZT) : List ExceptHandler → List ClzT → Prop
  | nil : JHT X z [] []
  | cons {te : Expr} {n : Str} {ts : List Tag} {cs : List Value} {i : Nat} {su : XS} {b₀ : Stmt} {suite : List Stmt} {pos' : Pos} {hds : List ExceptHandler} {l : List ClzT} (ht : tagsV (sx X) ts cs) (hc : E.TstOk X te (fun cls => PySem.W.exmAny X.K cls cs)) (hi : X.N[i]? = some n) (hln : X.env.kindOf n = some .local)
      (hsu : ∀ (a : Addr) (oe : Obj) (cls : Value) (d : Option Addr) (pn : List (Addr × Obj)), Zc cls d oe → (∃ vs, oe.data = .fields vs) → JSs (X.suite a ((a, oe) :: pn)) { z with e := some (a, cls, d) } (b₀ :: suite) su) (r : JHT X z hds l) :
      JHT X z (.ExceptHandler (some te) (some n) (b₀ :: suite) pos' :: hds) ((ts, i, su) :: l)
/-- a clause of one name -/
theorem tst_one {X : Cx} {x : Str} {c : Value} {np : Pos} (hc : Names X x c) : E.TstOk X (.Name x np) (fun cls => PySem.W.exmAny X.K cls [c]) := fun a pn s σ H cls b Q Er E2 I LT e q => by
  obtain ⟨b1, d1, x1, y1, z1⟩ := PySem.W.exmAny_cons e
  have : some false = some d1 := y1
  cases this
  rw [Bool.or_false] at z1
  subst z1
  exact E.tst_name hc a pn s σ H cls b Q Er E2 I LT x1 q
section
variable {X : Cx} {z : ZT} {body : List Stmt} {h₀ : ExceptHandler} {hds : List ExceptHandler} {cl : List ClzT} {pos : Pos} {b : XS} {T : Te}
def clsOf2 (Z : Sx) (z : ZT) (B : Wd) (K : PySem.W.Frag) : List ClzT → List (List Value) → List E.ClT
  | (t, i, su) :: r, c :: cs => ((fun cls => PySem.W.exmAny K cls c), i, fun a cls d => tS Z { z with e := some (a, cls, d) } B su fun _ _ _ => False) :: clsOf2 Z z B K r cs
  | _, _ => []
inductive JHT' (X : Cx) (z : ZT) : List ExceptHandler → List ClzT → List (List Value) → Prop
  | nil : JHT' X z [] [] []
  | cons {te : Expr} {n : Str} {ts : List Tag} {c : List Value} {i : Nat} {su : XS} {b₀ : Stmt} {suite : List Stmt} {pos' : Pos} {hds : List ExceptHandler} {l : List ClzT} {cs : List (List Value)} (ht : tagsV (sx X) ts c) (hc : E.TstOk X te (fun cls => PySem.W.exmAny X.K cls c)) (hi : X.N[i]? = some n) (hln : X.env.kindOf n = some .local)
      (hsu : ∀ (a : Addr) (oe : Obj) (cls : Value) (d : Option Addr) (pn : List (Addr × Obj)), Zc cls d oe → (∃ vs, oe.data = .fields vs) → JSs (X.suite a ((a, oe) :: pn)) { z with e := some (a, cls, d) } (b₀ :: suite) su) (r : JHT' X z hds l cs) :
      JHT' X z (.ExceptHandler (some te) (some n) (b₀ :: suite) pos' :: hds) ((ts, i, su) :: l) (c :: cs)
theorem JHT.vals (h : JHT X z hds cl) : ∃ cs, JHT' X z hds cl cs := by
  induction h with
  | nil => exact ⟨[], .nil⟩
  | cons ht hc hi hln hsu r ih =>
    obtain ⟨cs, q⟩ := ih
    exact ⟨_ :: cs, .cons ht hc hi hln hsu q⟩
theorem JHT'.toH (B : Wd) {cs : List (List Value)} (h : JHT' X z hds cl cs) : E.HdsT X hds (clsOf2 (sx X) z B X.K cl cs) := by
  induction h with
  | nil => exact .nil
  | cons ht hc hi hln hsu r ih => exact .cons hc hi hln (fun a oe cls d pn z1 z2 => (hsu a oe cls d pn z1 z2).run B _ takes_no) ih
/-- the rest of the clauses serve an exception -/
theorem handT_ok (t : TeOk (sx X) T) (hz : z.e = none) {B W W1 : Wd} {Eo : Exn → Loc → Cells → Prop} {D : Ends} {σ : L2.St} {H : Hp} {cls : Value} {d : Option Addr} {x : Exn} {l : Loc} {cs1 : Cells} (leW : Le W W1) (s1 : S (sx X) W1 cs1 H) (lr1 : LR (sx X) z B W1 l σ) (rx : RX (sx X) W1 cls d x) :
    ∀ {hds : List ExceptHandler} {cl : List ClzT} {cs : List (List Value)}, JHT' X z hds cl cs → wpS (handT T x l cs1 cl) (post (sx X) z B W Eo D) → E.wManyT (wx (sx X) z B Eo) D (clsOf2 (sx X) z B X.K cl cs) cls d σ H := by
  intro hds cl cs h
  induction h with
  | nil => exact fun w => ⟨W1, cs1, l, x, s1, lr1, rx, w⟩
  | @cons te n tg c i su b₀ suite pos' hds l' cs ht hc hi hln hsu r ih =>
    intro w
    have w' : wpS (match T.ms x.c tg with
      | some true => if i < l.length then endX i (su (l.set i (.exn x)) cs1) else .no
      | some false => handT T x l cs1 l'
      | none => .no) (post (sx X) z B W Eo D) := w
    cases q : T.ms x.c tg with
    | none => rw [q] at w'; exact w'.elim
    | some bb =>
      rw [q] at w'
      obtain ⟨Cl, dx, fs, e1, e2, e3, e4, e5⟩ := id rx
      have m3 := t.ms_ok e1 ht q
      subst e2
      refine ⟨bb, m3, fun hb => ?_, fun hb => ?_⟩
      · subst hb
        intro a ha
        dsimp only at w'
        by_cases hil : i < l.length
        · rw [if_pos hil] at w'
          refine ⟨W1, cs1, l.set i (.exn x), s1, lr1.caught hz rx, ?_⟩
          cases qs : su (l.set i (.exn x)) cs1 with
          | no => rw [qs] at w'; exact w'.elim
          | go fl cs2 =>
            rw [qs] at w'
            have back : ∀ {l2 : Loc} {W2 : Wd} {σ2 : L2.St}, (l2.set i .emp).any isExn = false → LR (sx X) { z with e := some (a, .ref Cl, d) } B W2 l2 σ2 → LR (sx X) z B W2 (l2.set i .emp) (σ2.set i none) := fun {l2 W2 σ2} hx lr2 => LR.noX (z := z) lr2.emp1 rfl hx
            cases fl with
            | nx l2 =>
              have w2 : wpS (if (l2.set i .emp).any isExn = true then SO.no else .go (.nx (l2.set i .emp)) cs2) (post (sx X) z B W Eo D) := w'
              split at w2
              · exact w2.elim
              · rename_i hx
                exact fun W2 σ2 H2 le2 s2 lr2 => w2 W2 _ H2 (leW.trans le2) s2 (back (by simpa using hx) lr2)
            | bk l2 =>
              have w2 : wpS (if (l2.set i .emp).any isExn = true then SO.no else .go (.bk (l2.set i .emp)) cs2) (post (sx X) z B W Eo D) := w'
              split at w2
              · exact w2.elim
              · rename_i hx
                exact fun W2 σ2 H2 le2 s2 lr2 => w2 W2 _ H2 (leW.trans le2) s2 (back (by simpa using hx) lr2)
            | ct l2 =>
              have w2 : wpS (if (l2.set i .emp).any isExn = true then SO.no else .go (.ct (l2.set i .emp)) cs2) (post (sx X) z B W Eo D) := w'
              split at w2
              · exact w2.elim
              · rename_i hx
                exact fun W2 σ2 H2 le2 s2 lr2 => w2 W2 _ H2 (leW.trans le2) s2 (back (by simpa using hx) lr2)
            | ret d2 => exact fun W2 v2 H2 le2 s2 o2 r2 => w' W2 v2 H2 (leW.trans le2) s2 o2 r2
            | ex x2 l2 => exact w'.elim
        · rw [if_neg hil] at w'
          exact w'.elim
      · subst hb
        exact ih w'
theorem js_tryT (t : TeOk (sx X) T) (hz : z.e = none) (hs : X.stack = X.env :: X.outer) (hf : X.env.frame = some X.env.locals) (hN : X.N.Nodup)
    (hb : ∀ (pn : List (Addr × Obj)) (xe : Value → Shared → Prop), PassesOwn (model X.prog X.w) X.A X.env xe → JSs (X.tr pn xe) z body b) (hh : JHT X z (h₀ :: hds) cl) : JS X z (.Try body (h₀ :: hds) [] [] pos) (sTryT T b cl) := by
  obtain ⟨cv, hv⟩ := hh.vals
  refine ⟨fun B Eo tk => ?_⟩
  have base := fun (B' : Wd) (hB : B'.O = B.O) => E.ps_try_manyT (pos := pos) (tb := fun Wx => fun D σ H => ∃ Ei, (∀ cls d σ H, wx (sx X) z B' Ei cls d σ H → Wx cls d σ H) ∧ tS (sx X) z B' b Ei D σ H) hs hf hN tk
    (fun Wx pn xe tk' po => ⟨fun pins s σ H D I ⟨Ei, himp, h⟩ => ((hb pn xe po).run B' Ei (tk'.imp himp)).run pins s σ H D I h⟩) (hv.toH B)
  refine ⟨fun pins s σ H D I h => ?_⟩
  obtain ⟨W, cs, l, ss, lr, w⟩ := h
  refine (base { W with O := B.O } rfl).run pins s σ H D I ?_
  refine ⟨fun x l' cs' => wpS (handT T x l' cs' cl) (post (sx X) z B W Eo D), fun cls d σ1 H1 ⟨W1, cs1, l1, x1, s1, lr1, rx1, e1⟩ => ?_, W, cs, l, ss, lr.rebase ⟨Ex.refl _, fun _ _ h => h⟩ rfl, ?_⟩
  · have leW : Le W W1 := ⟨lr1.base.1.g, lr1.base.1.i⟩
    exact handT_ok t hz leW s1 (lr1.rebase (lr.base.1.trans leW) rfl) rx1 hv e1
  · unfold sTryT at w
    cases q : b l cs with
    | no => rw [q] at w; exact w.elim
    | go fl cs' =>
      rw [q] at w
      have up : ∀ {W2 : Wd} {l2 : Loc} {σ2 : L2.St}, Le W W2 → LR (sx X) z { W with O := B.O } W2 l2 σ2 → LR (sx X) z B W2 l2 σ2 := fun {W2 l2 σ2} le lr2 => lr2.rebase (lr.base.1.trans le) rfl
      cases fl with
      | nx l2 => exact fun W2 σ2 H2 le2 s2 lr2 => w W2 σ2 H2 le2 s2 (up le2 lr2)
      | bk l2 => exact fun W2 σ2 H2 le2 s2 lr2 => w W2 σ2 H2 le2 s2 (up le2 lr2)
      | ct l2 => exact fun W2 σ2 H2 le2 s2 lr2 => w W2 σ2 H2 le2 s2 (up le2 lr2)
      | ret d2 => exact fun W2 v2 H2 le2 s2 o2 r2 => w W2 v2 H2 le2 s2 o2 r2
      | ex x2 l2 => exact w
end
/-- e.f, e the suite's exception, of any class of the table -/
def xXfA (T : Te) (i : Nat) (f : Str) : XE := fun l => match l[i]? with
  | some (.exn x) => if T.fld x.c f = true then rd fun _ => x.fs.lookup f else no
  | _ => no
theorem je_xfA {X : Cx} {z : ZT} {a : Addr} {oe : Obj} {cls : Value} {d : Option Addr} {pn : List (Addr × Obj)} {e : Expr} {i : Nat} {f : Str} {pos : Pos} {T : Te} (t : TeOk (sx X) T) (hz : Zc cls d oe) (hf : ∃ vs, oe.data = .fields vs) (hv : PE (X.suite a ((a, oe) :: pn)) e (tVar i)) (hb : attributeBase e f X.env (eval e X.env) = eval e X.env := by rfl) :
    JE (X.suite a ((a, oe) :: pn)) { z with e := some (a, cls, d) } (.Attribute e f pos) (xXfA T i f) := ⟨fun B Eo tk => ⟨fun pins s σ H Q I h => by
  obtain ⟨W, cs, l, ss, lr, w⟩ := h
  unfold xXfA at w
  split at w
  · rename_i x hl
    split at w
    · rename_i hcc
      obtain ⟨r, hr, k⟩ := wp_rd.mp w
      obtain ⟨a', cls', d', hz', hs, Cl, dx, fs, m, e2, e3, e4, e5⟩ := lr.sl i _ hl
      cases hz'
      subst e2 e3
      obtain ⟨k1, k2⟩ := t.fld_ok hcc m
      obtain ⟨v, hv2, rv⟩ := e5.lookup f hr
      exact (pe_xf k1 k2 hz hf hv hb).run pins s σ H Q I ⟨_, hs, rfl, rfl, dx, fs, v, rfl, ss.g _ _ e4, hv2, k W v H (Le.refl _) rfl ss rv⟩
    · exact w.elim
  · exact w.elim⟩⟩
end F

/-! sets of texts that can be walked: sorted(set(xs)) -/
namespace SW
open PySem PySem.Spec PyProof.Rows L2
section
variable {P : Program} {w : World} {K : Type} [DecidableEq K]
/-- a set whose members are told by S, with its entries and its table -/
structure At (knd : PySem.KeyKind P w K) (h : Heap) (a : Addr) (S : K → Bool) (n : Nat) (o : Obj) (es : Array (Int × Value)) (ep : Nat) (t : SetTable) : Prop where
  ho : h.get? a = some o
  hx : o.ExactSet
  hd : o.data = .set es ep t
  el : ElemsOf knd es.toList
  mem : ∀ k, S k = true ↔ ∃ e ∈ es.toList, knd.is k e.2 = true
  nd : es.toList.Pairwise fun e e' => ∀ k, knd.is k e.2 = true → knd.is k e'.2 = true → False
  sz : es.size < scanBound
  fit : t.fits es.size = true
  num : es.size = n
  ris : Ris t.place.toList
  led : w.params.followText "set-order" = true ∨ t.led = true
def Sw (knd : PySem.KeyKind P w K) (h : Heap) (a : Addr) (S : K → Bool) (n : Nat) : Prop := ∃ o es ep t, At knd h a S n o es ep t
variable {knd : PySem.KeyKind P w K} {A : Around} {Er : Value → Shared → Prop} {s : Shared} {a : Addr} {S : K → Bool} {n : Nat}
theorem Sw.keep {h h' : Heap} (R : Sw knd h a S n) (k : ∀ o, h.get? a = some o → h'.get? a = some o) : Sw knd h' a S n := by
  obtain ⟨o, es, ep, t, R⟩ := R
  exact ⟨o, es, ep, t, k o R.ho, R.hx, R.hd, R.el, R.mem, R.nd, R.sz, R.fit, R.num, R.ris, R.led⟩
theorem sym_nd {e e' : Int × Value} (h : ∀ k, knd.is k e.2 = true → knd.is k e'.2 = true → False) : ∀ k, knd.is k e'.2 = true → knd.is k e.2 = true → False := fun k h1 h2 => h k h2 h1
theorem put_at {h : Heap} {o : Obj} {es es' : Array (Int × Value)} {ep : Nat} {t t' : SetTable} (ho : h.get? a = some o) (hd : o.data = .set es ep t) : (h.update a (Obj.putSet es' t')).get? a = some { o with data := .set es' (ep + 1) t' } := store_at ho hd
/-- what is stored behind an add -/
theorem add_end {g : Bool → Sem Unit} (hg : ∀ (b : Bool) (s₁ : Shared) (Q' : Unit → Shared → Prop), Q' () s₁ → wpAny (model P w) A (g b) Q' Er s₁) {o : Obj} {es es1 : Array (Int × Value)} {ep : Nat} {t t2 : SetTable} {S' : K → Bool} {dm : Bool} {R : Option Bool → Shared → Prop}
    (ho : s.heap.get? a = some o) (hx : o.ExactSet) (hd : o.data = .set es ep t) (el : ElemsOf knd es1.toList) (mem : ∀ k, S' k = true ↔ ∃ e ∈ es1.toList, knd.is k e.2 = true) (nd : es1.toList.Pairwise fun e e' => ∀ k, knd.is k e.2 = true → knd.is k e'.2 = true → False)
    (sz : es1.size < scanBound) (fit : t2.fits es1.size = true) (ris : Ris t2.place.toList) (led : w.params.followText "set-order" = true ∨ t2.led = true) (hR : ∀ h', Heap.SameBut a s.heap h' → Sw knd h' a S' es1.size → R (some true) { s with heap := h' }) :
    wpAny (model P w) A (do
        storeSet a es1 t2
        if (!dm && t2.tooFull) = true then do
            g (relayAll t2 es1 (SetTable.grown es1.size)).2.2
            storeSet a (relayAll t2 es1 (SetTable.grown es1.size)).1 (relayAll t2 es1 (SetTable.grown es1.size)).2.1
            pure (some true)
          else pure (some true)) R Er s := by
  refine wpAny_bind (wpAny_storeSet_of ho hd ?_ (fits_of_scanBound sz))
  have ho1 := put_at (es' := es1) (t' := t2) ho hd
  have b1 := Heap.SameBut.update s.heap a (Obj.putSet es1 t2)
  split
  · have pm := relayAll_perm t2 es1 (SetTable.grown es1.size)
    have f3 := relayAll_fits t2 es1 (SetTable.grown es1.size)
    have r3 := relayAll_ris t2 es1 (SetTable.grown es1.size)
    have l3 := relayAll_led t2 es1 (SetTable.grown es1.size)
    generalize relayAll t2 es1 (SetTable.grown es1.size) = Z at pm f3 r3 l3 ⊢
    obtain ⟨es2, t3, gv⟩ := Z
    dsimp only at pm f3 r3 l3 ⊢
    have ez : es2.size = es1.size := by rw [← Array.length_toList, pm.length_eq, Array.length_toList]
    have z2 : es2.size < scanBound := by rw [ez]; exact sz
    refine wpAny_bind (hg _ _ _ (wpAny_bind (wpAny_storeSet_of ho1 rfl ?_ (fits_of_scanBound z2))))
    have ho2 := put_at (es' := es2) (t' := t3) ho1 rfl
    refine wpAny_pure (hR _ (b1.trans (Heap.SameBut.update _ a _)) ⟨_, es2, _, t3, ho2, hx, rfl, el.perm pm, fun k => (mem k).trans ⟨fun ⟨e, he, q⟩ => ⟨e, pm.mem_iff.mpr he, q⟩, fun ⟨e, he, q⟩ => ⟨e, pm.mem_iff.mp he, q⟩⟩, ?_, z2, f3, ez, r3, led.imp id fun z => by rw [l3]; exact z⟩)
    exact (pm.pairwise_iff fun h => sym_nd h).mpr nd
  · exact wpAny_pure (hR _ b1 ⟨_, es1, _, t2, ho1, hx, rfl, el, mem, nd, sz, fit, rfl, ris, led⟩)
theorem add_hashed {k : K} {x : Value} {Q : Bool → Shared → Prop} (hk : knd.is k x = true) (hsc : x.scannable = true) (R : Sw knd s.heap a S n) (room : n + 1 < scanBound)
    (hQ : ∀ h', Heap.SameBut a s.heap h' → Sw knd h' a (fun j => S j || decide (j = k)) (if S k = true then n else n + 1) → Q (!S k) { s with heap := h' }) : wpAny (model P w) A (setAddHashed a x (knd.hash k)) Q Er s := by
  obtain ⟨o, es, ep, t, R⟩ := R
  unfold setAddHashed setAddHashedIn
  refine wpAny_holding (wpAny_bind (wpAny_setState_of R.ho R.hd R.fit ?_))
  dsimp only
  rw [byScan_of hsc R.sz R.el]
  simp only [↓reduceIte]
  unfold setAddByScan
  refine wpAny_bind (wpAny_bind (wpAny_rule (wpAny_bind (wpAny_setScan_of hk R.ho R.hd R.fit R.el ?_))))
  cases hf : List.findIdx? (fun e => knd.is k e.2) es.toList with
  | some j =>
    dsimp only
    obtain ⟨hj, pj, _⟩ := List.findIdx?_eq_some_iff_getElem.mp hf
    have hS : S k = true := (R.mem k).mpr ⟨es.toList[j], List.getElem_mem hj, pj⟩
    refine wpAny_pure (wpAny_pure ?_)
    have q := hQ s.heap (Heap.SameBut.refl a s.heap) ⟨o, es, ep, t, R.ho, R.hx, R.hd, R.el, fun i => by
      rw [Bool.or_eq_true, decide_eq_true_eq, ← R.mem i]
      exact ⟨fun z => z.elim id (fun e => e ▸ hS), .inl⟩, R.nd, R.sz, R.fit, by rw [if_pos hS]; exact R.num, R.ris, R.led⟩
    rw [hS] at q
    exact q
  | none =>
    dsimp only
    have no : ∀ e ∈ es.toList, knd.is k e.2 = false := fun e he => by simpa using List.findIdx?_eq_none_iff.mp hf e he
    have hS : S k = false := by
      cases q : S k with
      | false => rfl
      | true =>
        obtain ⟨e, he, z⟩ := (R.mem k).mp q
        rw [no e he] at z
        cases z
    have gw : ∀ (b : Bool) {s₁ : Shared} {Q' : Unit → Shared → Prop}, Q' () s₁ → wpAny (model P w) A (match b with | true => rule "set.scan.the-table-gave-way" | false => pure ()) Q' Er s₁ := fun b s₁ Q' z => by cases b <;> first | exact wpAny_pure z | exact wpAny_rule z
    have pm := layNew_perm t es (knd.hash k) x
    have f1 := layNew_fits t es (knd.hash k) x
    have r1 := layNew_ris t es (knd.hash k) x R.ris
    have l1 := layNew_led t es (knd.hash k) x
    generalize layNew t es (knd.hash k) x = Z at pm f1 r1 l1 ⊢
    obtain ⟨es1, t1, dm, gv⟩ := Z
    dsimp only at pm f1 r1 l1 ⊢
    rw [Array.toList_push] at pm
    have el1 : ElemsOf knd es1.toList := (R.el.push hk hsc).perm pm
    have mem1 : ∀ j, (S j || decide (j = k)) = true ↔ ∃ e ∈ es1.toList, knd.is j e.2 = true := mem_push_iff hk R.mem pm
    have nd1 : es1.toList.Pairwise fun e e' => ∀ j, knd.is j e.2 = true → knd.is j e'.2 = true → False := by
      refine (pm.pairwise_iff fun h => sym_nd h).mpr ?_
      rw [List.pairwise_append]
      refine ⟨R.nd, List.pairwise_singleton _ _, fun e he e' he' j h1 h2 => ?_⟩
      rw [List.mem_singleton] at he'
      subst he'
      have : j = k := knd.inj x j k h2 hk
      subst this
      rw [no e he] at h1
      cases h1
    have z1 : es1.size = n + 1 := by rw [← Array.length_toList, pm.length_eq, List.length_append, Array.length_toList, R.num]; rfl
    have led1 : w.params.followText "set-order" = true ∨ t1.led = true := R.led.imp id fun z => by rw [l1]; exact z
    have fin : ∀ h', Heap.SameBut a s.heap h' → Sw knd h' a (fun j => S j || decide (j = k)) es1.size → Q true { s with heap := h' } := fun h' sb r => by
      have q := hQ h' sb
      rw [hS] at q
      rw [z1] at r
      exact q r
    refine wpAny_bind (gw _ ?_)
    split
    · refine wpAny_bind ?_
      rw [hashByValue_scannable 8 hsc]
      refine wpAny_pure (add_end ?_ R.ho R.hx R.hd el1 mem1 nd1 (by rw [z1]; exact room) ?_ ?_ ?_ ?_)
      · intro b s₁ Q' z; cases b <;> first | exact wpAny_pure z | exact wpAny_rule z
      · first | (split <;> first | exact f1 | exact SetTable.fits_plain_off f1) | exact f1
      · first | (split <;> exact r1) | exact r1
      · first | (split <;> exact led1) | exact led1
      · intro h' sb r; dsimp only; exact wpAny_pure (fin h' sb r)
    · refine wpAny_bind (wpAny_pure ?_)
      simp only [↓reduceIte]
      refine add_end ?_ R.ho R.hx R.hd el1 mem1 nd1 (by rw [z1]; exact room) f1 r1 led1 ?_
      · intro b s₁ Q' z; cases b <;> first | exact wpAny_pure z | exact wpAny_rule z
      · intro h' sb r; dsimp only; exact wpAny_pure (fin h' sb r)
end
end SW

/-! set(xs), xs a list or a tuple -/
namespace SW
open PySem PySem.Spec PyProof.Rows L2
section
variable {P : Program} {w : World} {K : Type} [DecidableEq K] {knd : PySem.KeyKind P w K} {A : Around}
/-- the members are the first i values -/
def Has (knd : PySem.KeyKind P w K) (h : Heap) (a : Addr) (val : Nat → K) (i : Nat) : Prop := ∃ S m, Sw knd h a S m ∧ m ≤ i ∧ ∀ j, S j = true ↔ ∃ q, q < i ∧ val q = j
theorem upd_loop {R : Result → Shared → Prop} {I : Addr} {fp wr : List Addr} {G : Array GenState → Array GenState → Prop} {n : Nat} {Pv : Nat → Value → Prop} {St : Nat → Shared → Prop} (W : WalksS P w A.in1 I fp wr G n Pv St) (sa : Addr) (hf : sa ∉ fp) (val : Nat → K)
    (hv : ∀ i v, Pv i v → knd.is (val i) v = true ∧ v.scannable = true) (hb : n + 1 < scanBound) :
    ∀ (k i : Nat) (s : Shared), n - i = k → i ≤ n → St i s → Has knd s.heap sa val i → (∀ s', Moved (sa :: wr) G s s' → Has knd s'.heap sa val n → R (.ok (.ret .none)) s') →
      codeAny (model P w) A (.builtin "set.update.loop" ⟨[.ref sa, .ref I], []⟩) R s := by
  have hw : sa ∉ wr := fun z => hf (W.sub _ z)
  have sub : ∀ b ∈ wr, b ∈ sa :: wr := fun b z => List.mem_cons_of_mem _ z
  intro k
  induction k with
  | zero =>
    intro i s hk hi st hS hR
    obtain rfl : i = n := by omega
    refine codeAny_builtin F.entry_set_update_loop ?_
    rw [Around.under_plainId F.plain_set_update_loop _]
    show wpAny _ A.in1 (pyNext (.ref I) >>= _) _ _ s
    refine wpAny_bind (W.done s _ _ st fun s' hm => ?_)
    show wpAny _ A.in1 (ret Value.none) _ _ s'
    obtain ⟨S, m, hS, lm, hj⟩ := hS
    exact wpAny_pure (hR s' (hm.mono sub) ⟨S, m, hS.keep fun o e => hm.heap sa o hw e, lm, hj⟩)
  | succ k ih =>
    intro i s hk hi st hS hR
    have lt : i < n := by omega
    refine codeAny_builtin F.entry_set_update_loop ?_
    rw [Around.under_plainId F.plain_set_update_loop _]
    show wpAny _ A.in1 (pyNext (.ref I) >>= _) _ _ s
    refine wpAny_bind (W.item i s _ _ lt st fun v s' hP st' hm => ?_)
    obtain ⟨hkv, hsc⟩ := hv i v hP
    obtain ⟨S, m, hS, lm, hj⟩ := hS
    have hS' : Sw knd s'.heap sa S m := hS.keep fun o e => hm.heap sa o hw e
    show wpAny _ A.in1 (holding [v] (setAdd sa v) >>= _) _ _ s'
    refine wpAny_bind (wpAny_holding ?_)
    unfold setAdd
    refine wpAny_holding (wpAny_bind (knd.pyHash (k := val i) hkv ?_))
    refine add_hashed (knd := knd) (s := { s' with toks := s'.toks + 1 }) hkv hsc hS' (by omega) fun h' sb S2 => ?_
    have hi1 : Has knd h' sa val (i + 1) := by
      refine ⟨_, _, S2, ?_, fun j => ?_⟩
      · split <;> omega
      · rw [Bool.or_eq_true, hj j, decide_eq_true_eq]
        constructor
        · rintro (⟨q, h1, h2⟩ | rfl)
          · exact ⟨q, by omega, h2⟩
          · exact ⟨i, by omega, rfl⟩
        · rintro ⟨q, h1, h2⟩
          by_cases z : q = i
          · subst z
            exact .inr h2.symm
          · exact .inl ⟨q, by omega, h2⟩
    refine wpAny_pure ⟨plainId_quiet F.plain_set_update_loop _, ih (i + 1) _ (by omega) lt (W.frame _ s' _ _ st' (Nat.le_succ _) fun b hb2 o e => ?_) hi1 fun s'' hm'' hS'' => ?_⟩
    · rw [sb.2 b (fun z : b = sa => hf (by rw [← z]; exact hb2))]; exact e
    · refine hR s'' (Moved.trans W.gtrans ((hm.mono sub).then_heap (Nat.le_succ _) fun b o hb2 e => ?_) hm'') hS''
      rw [sb.2 b (fun z : b = sa => hb2 (by rw [z]; exact List.mem_cons_self))]; exact e
end
end SW

/-! set(xs), xs a list or a tuple: the call -/
namespace SW
open PySem PySem.Spec PyProof.Rows L2
section
variable {P : Program} {w : World} {K : Type} [DecidableEq K] {knd : PySem.KeyKind P w K} {A : Around} {Er : Value → Shared → Prop} {s : Shared}
abbrev fresh (w : World) : Obj := { cls := .type "set", dict := none, data := .set #[] 0 (.fresh 0 0 (!w.params.followText "set-order")) }
theorem sw_fresh {h : Heap} {a : Addr} (e : h.get? a = some (fresh w)) : Sw knd h a (fun _ => false) 0 := ⟨_, #[], 0, _, e, ⟨rfl, rfl, rfl⟩, rfl, fun e he => by simp at he, fun k => by simp, by simp, by decide, by rfl, rfl, List.Pairwise.nil, by
  show _ ∨ (!w.params.followText "set-order") = true
  cases w.params.followText "set-order"
  · exact .inr rfl
  · exact .inl rfl⟩
theorem new_led (a : Value) {Q₁ : Value → Shared → Prop} (h : Q₁ (.ref s.heap.objs.size) { s with heap := s.heap.push (fresh w) }) : codeAny (model P w) A (.call (.builtin "set.__new__") ⟨[.type "set", a], []⟩) (wants Q₁ Er) s := by
  refine codeAny_of_tree ?_
  show wpAny _ A.in1 (do checkBuiltinCall "set.__new__" ⟨[.type "set", a], []⟩; again (.builtin "set.__new__" ⟨[.type "set", a], []⟩)) _ _ s
  refine wpAny_bind (wpAny_of_eq (F.newCall_set_1 a) (wpAny_pure ⟨plainId_quiet F.plain_set_new _, codeAny_builtin F.entry_set_new ?_⟩))
  rw [Around.under_plainId F.plain_set_new _]
  unfold Builtin.«set.__new__» Builtin.Frozenset.newClass
  have hsub := sub_set_self
  obtain ⟨hp, g, d, tk, os⟩ := s
  dsimp only
  wp_walk
  refine wpAny_askSetting (wpAny_pure ?_)
  dsimp only
  simp only [newObj]
  exact wpAny_bind (wpAny_alloc (wpAny_pure (wpAny_pure h)))

theorem sub_list_s : isSubtype (.type "list") (.type "set") = pure false := by rw [isSubtype_type]; kernel_rfl
theorem sub_list_f : isSubtype (.type "list") (.type "frozenset") = pure false := by rw [isSubtype_type]; kernel_rfl
/-- set(xs), xs a list -/
theorem set_list {l : Addr} {items : Array Value} {val : Nat → K} {Q : Value → Shared → Prop} (hh : A.handled = none) (hl : s.heap.IsList l items) (hv : ∀ i v, items[i]? = some v → knd.is (val i) v = true ∧ v.scannable = true) (hb : items.size + 1 < scanBound)
    (hQ : ∀ (h' : Heap) (tk : Nat), Has knd h' s.heap.objs.size val items.size → (∀ b o, b < s.heap.objs.size → s.heap.get? b = some o → h'.get? b = some o) → Q (.ref s.heap.objs.size) { s with heap := h', toks := tk }) : wpAny (model P w) A (call (.type "set") [.ref l]) Q Er s := by
  obtain ⟨c, tl, hmro⟩ := F.called_set.mro
  have hmade := F.called_set.made
  have hsub := F.called_set.sub
  refine wpAny_call (codeAny_of_tree ?_)
  show wpAny _ _ (callAny (.type "set") _) _ _ _
  refine wpAny_pure ⟨Code.quiet_builtin _ (by decide +kernel), codeAny_builtin F.entry_type_call ?_⟩
  rw [Around.under_plain (weight_type_call_type "set" [.ref l] []) rfl]
  have h1 := F.called_set.notType
  have h2 := F.called_set.canCreate
  have hct := F.typeCall_set_1 (.ref l)
  repeat (any_goals (first | assumption | wp_step))
  refine codeAny_mono (new_led (.ref l) (Er := Er) (Q₁ := fun ob s₁ => ob = .ref s.heap.objs.size ∧ s₁ = { s with heap := s.heap.push (fresh w) }) ⟨rfl, rfl⟩) fun r s₁ hr => ?_
  cases r with
  | error e => exact hr
  | ok fl =>
    cases fl with
    | ret ob =>
      obtain ⟨rfl, rfl⟩ := hr
      have hS : (s.heap.push (fresh w)).get? s.heap.objs.size = some (fresh w) := Heap.get?_push_size _ rfl
      have hT : Shared.TypeIs { s with heap := s.heap.push (fresh w) } (.ref s.heap.objs.size) "set" := ⟨_, hS, rfl⟩
      have hli := F.called_set.init.lookup
      have hbi := F.called_set.init.bind (.ref s.heap.objs.size)
      repeat (any_goals (first | assumption | wp_step))
      refine codeAny_mono (codeAny_call_builtin (R := wants (fun r s₂ => r = .none ∧ ∃ h' tk, s₂ = { s with heap := h', toks := tk } ∧ Has knd h' s.heap.objs.size val items.size ∧ (∀ b o, b < s.heap.objs.size → s.heap.get? b = some o → h'.get? b = some o)) Er) F.called_set.init.plain F.entry_set_init (check_set_init_1 hT ?_)) fun r₂ s₂ hr₂ => ?_
      · obtain ⟨ol, hol, hcl, nl, hdl⟩ := hl
        obtain ⟨oc, od, odt, osl⟩ := ol
        simp only at hcl hdl
        subst hcl; subst hdl
        have hol' : (s.heap.push (fresh w)).get? l = some { cls := .type "list", dict := od, data := .seq items nl, slots := osl } := Heap.get?_push_of_some _ hol
        have hs1 := sub_list_s
        have hs2 := sub_list_f
        have hne : (Value.type "list" == Value.type "dict") = false := by decide
        have hl1 : (s.heap.push (fresh w)).IsList l items := ⟨_, hol', rfl, nl, rfl⟩
        unfold Builtin.«set.__init__» noKeywords Builtin.Frozenset.updateFrom
        generalize hPI : pyIter = PI
        wp_walk
        subst hPI
        refine wpAny_pyIter_list hl1 (wpAny_bind (wpAny_runValue ?_))
        have hlS : l < s.heap.objs.size := Heap.lt_size hol
        have hh3 : A.in1.in1.in1.handled = none := by simp [hh]
        have hI : l ≠ (s.heap.push (fresh w)).objs.size := by rw [Heap.size_push]; exact Nat.ne_of_lt (Nat.lt_succ_of_lt hlS)
        have hf : s.heap.objs.size ∉ [(s.heap.push (fresh w)).objs.size, l] := by
          rw [Heap.size_push]
          simp only [List.mem_cons, List.not_mem_nil, or_false, not_or]
          exact ⟨Nat.ne_of_lt (Nat.lt_succ_self _), Nat.ne_of_gt hlS⟩
        refine upd_loop (knd := knd) ((Walks.list hh3 _ l hI items).toS) s.heap.objs.size hf val hv hb (items.size - 0) 0 _ (by omega) (Nat.zero_le _) ⟨⟨_, Heap.get?_push_size _ rfl, rfl, rfl⟩, (hl1.push _)⟩ ?s0 ?sR
        case s0 =>
          have hg : ((s.heap.push (fresh w)).push { cls := .type "list_iterator", data := .fields #[.ref l, .int 0 0] }).get? s.heap.objs.size = some (fresh w) := Heap.get?_push_of_some _ hS
          exact ⟨_, 0, sw_fresh hg, Nat.le_refl _, fun j => ⟨fun z => (nomatch z), fun ⟨q, z, _⟩ => absurd z (Nat.not_lt_zero _)⟩⟩
        case sR =>
          intro s' hm hS'
          obtain ⟨h', g', d', tk', os'⟩ := s'
          have eg : g' = s.gens := hm.gens
          have ed : d' = s.drawn := hm.drawn
          have eo : os' = s.os := hm.os
          subst eg; subst ed; subst eo
          show wpAny _ _ _ _ _ _
          refine wpAny_pure ?_
          show wpAny _ _ (ret Value.none) _ _ _
          refine wpAny_pure ⟨rfl, h', tk', rfl, hS', fun b o hb2 e => ?_⟩
          have n1 : b ≠ s.heap.objs.size := Nat.ne_of_lt hb2
          have n2 : b ≠ (s.heap.push (fresh w)).objs.size := by rw [Heap.size_push]; exact Nat.ne_of_lt (Nat.lt_succ_of_lt hb2)
          exact hm.heap b o (by simp only [List.mem_cons, List.not_mem_nil, or_false, not_or]; exact ⟨n1, n2⟩) (Heap.get?_push_of_some _ (Heap.get?_push_of_some _ e))
      · cases r₂ with
        | error e => exact hr₂
        | ok fl₂ =>
          cases fl₂ with
          | ret r =>
            obtain ⟨rfl, h', tk, rfl, hS', hk'⟩ := hr₂
            repeat (any_goals (first | assumption | wp_step))
            exact hQ _ _ hS' hk'
          | _ => exact hr₂.elim
    | _ => exact hr.elim

theorem sub_tuple_s : isSubtype (.type "tuple") (.type "set") = pure false := by rw [isSubtype_type]; kernel_rfl
theorem sub_tuple_f : isSubtype (.type "tuple") (.type "frozenset") = pure false := by rw [isSubtype_type]; kernel_rfl
/-- set(xs), xs a tuple -/
theorem set_tuple {l : Addr} {items : Array Value} {val : Nat → K} {Q : Value → Shared → Prop} (hh : A.handled = none) (hl : s.heap.IsTuple l items) (hv : ∀ i v, items[i]? = some v → knd.is (val i) v = true ∧ v.scannable = true) (hb : items.size + 1 < scanBound)
    (hQ : ∀ (h' : Heap) (tk : Nat), Has knd h' s.heap.objs.size val items.size → (∀ b o, b < s.heap.objs.size → s.heap.get? b = some o → h'.get? b = some o) → Q (.ref s.heap.objs.size) { s with heap := h', toks := tk }) : wpAny (model P w) A (call (.type "set") [.ref l]) Q Er s := by
  obtain ⟨c, tl, hmro⟩ := F.called_set.mro
  have hmade := F.called_set.made
  have hsub := F.called_set.sub
  refine wpAny_call (codeAny_of_tree ?_)
  show wpAny _ _ (callAny (.type "set") _) _ _ _
  refine wpAny_pure ⟨Code.quiet_builtin _ (by decide +kernel), codeAny_builtin F.entry_type_call ?_⟩
  rw [Around.under_plain (weight_type_call_type "set" [.ref l] []) rfl]
  have h1 := F.called_set.notType
  have h2 := F.called_set.canCreate
  have hct := F.typeCall_set_1 (.ref l)
  repeat (any_goals (first | assumption | wp_step))
  refine codeAny_mono (new_led (.ref l) (Er := Er) (Q₁ := fun ob s₁ => ob = .ref s.heap.objs.size ∧ s₁ = { s with heap := s.heap.push (fresh w) }) ⟨rfl, rfl⟩) fun r s₁ hr => ?_
  cases r with
  | error e => exact hr
  | ok fl =>
    cases fl with
    | ret ob =>
      obtain ⟨rfl, rfl⟩ := hr
      have hS : (s.heap.push (fresh w)).get? s.heap.objs.size = some (fresh w) := Heap.get?_push_size _ rfl
      have hT : Shared.TypeIs { s with heap := s.heap.push (fresh w) } (.ref s.heap.objs.size) "set" := ⟨_, hS, rfl⟩
      have hli := F.called_set.init.lookup
      have hbi := F.called_set.init.bind (.ref s.heap.objs.size)
      repeat (any_goals (first | assumption | wp_step))
      refine codeAny_mono (codeAny_call_builtin (R := wants (fun r s₂ => r = .none ∧ ∃ h' tk, s₂ = { s with heap := h', toks := tk } ∧ Has knd h' s.heap.objs.size val items.size ∧ (∀ b o, b < s.heap.objs.size → s.heap.get? b = some o → h'.get? b = some o)) Er) F.called_set.init.plain F.entry_set_init (check_set_init_1 hT ?_)) fun r₂ s₂ hr₂ => ?_
      · obtain ⟨ol, hol, hcl, nl, hdl⟩ := hl
        obtain ⟨oc, od, odt, osl⟩ := ol
        simp only at hcl hdl
        subst hcl; subst hdl
        have hol' : (s.heap.push (fresh w)).get? l = some { cls := .type "tuple", dict := od, data := .seq items nl, slots := osl } := Heap.get?_push_of_some _ hol
        have hs1 := sub_tuple_s
        have hs2 := sub_tuple_f
        have hne : (Value.type "tuple" == Value.type "dict") = false := by decide
        have hl1 : (s.heap.push (fresh w)).IsTuple l items := ⟨_, hol', rfl, nl, rfl⟩
        unfold Builtin.«set.__init__» noKeywords Builtin.Frozenset.updateFrom
        generalize hPI : pyIter = PI
        wp_walk
        subst hPI
        refine wpAny_pyIter_tuple hl1 (wpAny_bind (wpAny_runValue ?_))
        have hlS : l < s.heap.objs.size := Heap.lt_size hol
        have hh3 : A.in1.in1.in1.handled = none := by simp [hh]
        have hI : l ≠ (s.heap.push (fresh w)).objs.size := by rw [Heap.size_push]; exact Nat.ne_of_lt (Nat.lt_succ_of_lt hlS)
        have hf : s.heap.objs.size ∉ [(s.heap.push (fresh w)).objs.size, l] := by
          rw [Heap.size_push]
          simp only [List.mem_cons, List.not_mem_nil, or_false, not_or]
          exact ⟨Nat.ne_of_lt (Nat.lt_succ_self _), Nat.ne_of_gt hlS⟩
        refine upd_loop (knd := knd) ((Walks.tuple hh3 _ l hI items).toS) s.heap.objs.size hf val hv hb (items.size - 0) 0 _ (by omega) (Nat.zero_le _) ⟨⟨_, Heap.get?_push_size _ rfl, rfl, rfl⟩, (hl1.push _)⟩ ?s0 ?sR
        case s0 =>
          have hg : ((s.heap.push (fresh w)).push { cls := .type "tuple_iterator", data := .fields #[.ref l, .int 0 0] }).get? s.heap.objs.size = some (fresh w) := Heap.get?_push_of_some _ hS
          exact ⟨_, 0, sw_fresh hg, Nat.le_refl _, fun j => ⟨fun z => (nomatch z), fun ⟨q, z, _⟩ => absurd z (Nat.not_lt_zero _)⟩⟩
        case sR =>
          intro s' hm hS'
          obtain ⟨h', g', d', tk', os'⟩ := s'
          have eg : g' = s.gens := hm.gens
          have ed : d' = s.drawn := hm.drawn
          have eo : os' = s.os := hm.os
          subst eg; subst ed; subst eo
          show wpAny _ _ _ _ _ _
          refine wpAny_pure ?_
          show wpAny _ _ (ret Value.none) _ _ _
          refine wpAny_pure ⟨rfl, h', tk', rfl, hS', fun b o hb2 e => ?_⟩
          have n1 : b ≠ s.heap.objs.size := Nat.ne_of_lt hb2
          have n2 : b ≠ (s.heap.push (fresh w)).objs.size := by rw [Heap.size_push]; exact Nat.ne_of_lt (Nat.lt_succ_of_lt hb2)
          exact hm.heap b o (by simp only [List.mem_cons, List.not_mem_nil, or_false, not_or]; exact ⟨n1, n2⟩) (Heap.get?_push_of_some _ (Heap.get?_push_of_some _ e))
      · cases r₂ with
        | error e => exact hr₂
        | ok fl₂ =>
          cases fl₂ with
          | ret r =>
            obtain ⟨rfl, h', tk, rfl, hS', hk'⟩ := hr₂
            repeat (any_goals (first | assumption | wp_step))
            exact hQ _ _ hS' hk'
          | _ => exact hr₂.elim
    | _ => exact hr.elim
end
end SW

/-! sorted(a set of texts) -/
namespace SW
open PySem PySem.Spec PyProof.Rows L2
section
variable {P : Program} {w : World} {A : Around} {Er : Value → Shared → Prop} {s : Shared} {a : Addr}
theorem mix_str {k : Key} {x : Str} {v : Value} (h1 : (mixKind P w).is k v = true) (h2 : (mixKind P w).is (.inr x) v = true) : k = .inr x := (mixKind P w).inj v k (.inr x) h1 h2
theorem is_str {x : Str} {v : Value} (h : (mixKind P w).is (.inr x) v = true) : ∃ t, v = .str x t := by
  have h : keyIs (.inr x) v = true := h
  rcases keyIs_shape h with ⟨i, t, e, _⟩ | ⟨y, t, e, rfl⟩
  · cases e
  · cases e
    exact ⟨t, rfl⟩
theorem sorted_sw {S : Key → Bool} {n : Nat} {Q : Value → Shared → Prop} (R : Sw (mixKind P w) s.heap a S n) (hS : ∀ k, S k = true → ∃ x, k = .inr x) (hh : A.handled = none) (h64 : n < 64)
    (hQ : ∀ s' p (out : Array Value) (c : Nat) (ys : List Str), (∀ b o, s.heap.get? b = some o → s'.heap.get? b = some o) → s'.gens = s.gens → s'.os = s.os → s.heap.objs.size ≤ p → s'.heap.get? p = some (seqObj "list" out c) → StrsAre out.toList ys → sortedS ys = true → ys.Nodup → (∀ x, x ∈ ys ↔ S (.inr x) = true) → ys.length = n → Q (.ref p) s') :
    wpAny (model P w) A (call (.builtin "sorted") [.ref a]) Q Er s := by
  obtain ⟨o, es, ep, t, R⟩ := R
  have hstr : ∀ e ∈ es.toList, ∃ x tk, e.2 = .str x tk := fun e he => by
    obtain ⟨⟨k, hk, _⟩, _⟩ := R.el e he
    obtain ⟨x, rfl⟩ := hS k ((R.mem k).mpr ⟨e, he, hk⟩)
    obtain ⟨tk, q⟩ := is_str hk
    exact ⟨x, tk, q⟩
  refine Calls.call_function_entry kind_sorted plain_sorted entry_sorted (args_sorted1 _) ?_
  unfold Builtin.«sorted»
  refine wpAny_bind (m := checkCount "sorted" 1 1 _) (wpAny_pure ?_)
  refine wpAny_bind (collect_set (A := A.in1) hh ⟨o, R.ho, R.hx.1, R.hd⟩ R.fit R.sz R.ris R.led fun s1 vs k1 hz g1 o1 pm => ?_)
  have hvl : vs.length = n := by rw [pm.length_eq, List.length_map, Array.length_toList]; exact R.num
  have hI : StrsAre vs (vs.map strOf) := strsAre_map vs fun v hv => by
    obtain ⟨e, he, rfl⟩ := List.mem_map.mp (pm.mem_iff.mp hv)
    exact hstr e he
  refine wpAny_bind (wpAny_newList ?_ (by rw [hvl, sizeLine_eq]; omega))
  have hoL : (s1.heap.push (seqObj "list" vs.toArray 0)).get? s1.heap.objs.size = some (seqObj "list" vs.toArray 0) := Heap.get?_push_size _ rfl
  refine wpAny_bind (wpAny_holding (wpAny_call_entry slot_list_sort ⟨_, hoL, rfl⟩ entry_list_sort (list_sort_treeK strKind_oneLt hoL hI.keysOf (fun v₁ v₂ rest e => keyKind_strs (by rw [← e]; exact hI)) (by rw [hvl]; exact h64) fun st' hp hs => ⟨_, rfl, ?_⟩) (args_list_sort _)))
  obtain ⟨ys, y1, y2, y3⟩ := sorted_out_str hI hp hs
  obtain ⟨c, hc⟩ := sortedHeap_at (vs := vs) (out := (arrOf st').map (·.2)) hoL
  have pk : (vs.map strOf).Perm (es.toList.map fun e => strOf e.2) := by
    have q := pm.map strOf
    rw [List.map_map] at q
    exact q
  have pn : ys.Perm (es.toList.map fun e => strOf e.2) := y2.trans pk
  have isx : ∀ e ∈ es.toList, (mixKind P w).is (.inr (strOf e.2)) e.2 = true := fun e he => by
    obtain ⟨x, tk, q⟩ := hstr e he
    rw [q]
    exact mixKind_str P w x tk
  have nd : (es.toList.map fun e => strOf e.2).Nodup := by
    rw [List.Nodup, List.pairwise_map]
    refine List.Pairwise.imp_of_mem (fun {e e'} he he' h z => ?_) R.nd
    have h2 := isx e' he'
    rw [← z] at h2
    exact h _ (isx e he) h2
  refine wpAny_pure ⟨_, rfl, hQ _ s1.heap.objs.size _ c ys (fun b u e => ?_) g1 o1 hz hc y1 y3 (pn.nodup_iff.mpr nd) (fun x => ?_) ?_⟩
  · have q := k1 b u e
    have hlt := Heap.lt_size q
    show (sortedHeap (s1.heap.push (seqObj "list" vs.toArray 0)) s1.heap.objs.size vs _).get? b = some u
    rw [sortedHeap_old (Nat.ne_of_lt hlt) (by rw [size_push']; exact Nat.lt_succ_of_lt hlt)]
    exact Heap.get?_push_of_some _ q
  · rw [pn.mem_iff, R.mem, List.mem_map]
    constructor
    · rintro ⟨e, he, rfl⟩
      exact ⟨e, he, isx e he⟩
    · rintro ⟨e, he, q⟩
      refine ⟨e, he, ?_⟩
      obtain ⟨tk, q2⟩ := is_str q
      rw [q2]
      rfl
  · rw [pn.length_eq, List.length_map, Array.length_toList]; exact R.num
end
end SW

/-! sorted(set(xs)) of texts -/
namespace F
open PySem PySem.Spec PyProof.Rows L2 Evl
/-! the order of texts -/
theorem lt_irr : ∀ a : List Nat, ltCps a a = false
  | [] => rfl
  | x :: r => by
    show (decide (x < x) || (x == x && ltCps r r)) = false
    rw [lt_irr r]
    simp
theorem lt_tr : ∀ {a b c : List Nat}, ltCps a b = true → ltCps b c = true → ltCps a c = true
  | [], [], _, h, _ => by cases h
  | [], _ :: _, [], _, h => by cases h
  | [], _ :: _, _ :: _, _, _ => rfl
  | _ :: _, [], _, h, _ => by cases h
  | _ :: _, _ :: _, [], _, h => by cases h
  | x :: r, y :: t, z :: u, h1, h2 => by
    have h1 : (decide (x < y) || (x == y && ltCps r t)) = true := h1
    have h2 : (decide (y < z) || (y == z && ltCps t u)) = true := h2
    show (decide (x < z) || (x == z && ltCps r u)) = true
    simp only [Bool.or_eq_true, decide_eq_true_eq, Bool.and_eq_true, beq_iff_eq] at h1 h2 ⊢
    rcases h1 with h1 | ⟨h1, g1⟩
    · rcases h2 with h2 | ⟨h2, _⟩
      · exact .inl (by omega)
      · exact .inl (by omega)
    · rcases h2 with h2 | ⟨h2, g2⟩
      · exact .inl (by omega)
      · exact .inr ⟨by omega, lt_tr g1 g2⟩
theorem lt_tri : ∀ {a b : List Nat}, ltCps a b = false → ltCps b a = false → a = b
  | [], [], _, _ => rfl
  | [], _ :: _, h, _ => by cases h
  | _ :: _, [], _, h => by cases h
  | x :: r, y :: t, h1, h2 => by
    have h1 : (decide (x < y) || (x == y && ltCps r t)) = false := h1
    have h2 : (decide (y < x) || (y == x && ltCps t r)) = false := h2
    simp only [Bool.or_eq_false_iff, decide_eq_false_iff_not, Bool.and_eq_false_iff, beq_eq_false_iff_ne] at h1 h2
    have e : x = y := by omega
    subst e
    have a1 : ltCps r t = false := by
      rcases h1.2 with z | z
      · exact absurd rfl z
      · exact z
    have a2 : ltCps t r = false := by
      rcases h2.2 with z | z
      · exact absurd rfl z
      · exact z
    rw [lt_tri a1 a2]
def ltS (a b : Str) : Bool := ltCps a.cps.toList b.cps.toList
theorem ltS_irr (a : Str) : ltS a a = false := lt_irr _
theorem ltS_tr {a b c : Str} (h1 : ltS a b = true) (h2 : ltS b c = true) : ltS a c = true := lt_tr h1 h2
theorem ltS_tri {a b : Str} (h1 : ltS a b = false) (h2 : ltS b a = false) : a = b := by
  have := lt_tri h1 h2
  obtain ⟨⟨a⟩⟩ := a
  obtain ⟨⟨b⟩⟩ := b
  simp at this
  rw [this]
def insS (x : Str) : List Str → List Str
  | [] => [x]
  | y :: r => if x = y then y :: r else if ltS x y = true then x :: y :: r else y :: insS x r
/-- in order, each once -/
def srtS (xs : List Str) : List Str := xs.foldr insS []
abbrev Asc (xs : List Str) : Prop := xs.Pairwise fun a b => ltS a b = true
theorem insS_mem {x y : Str} : ∀ {xs : List Str}, y ∈ insS x xs ↔ y = x ∨ y ∈ xs
  | [] => by simp [insS]
  | z :: r => by
    unfold insS
    split
    · rename_i h
      subst h
      simp
    · split
      · simp
      · rw [List.mem_cons, insS_mem, List.mem_cons]
        constructor
        · rintro (h | h | h)
          · exact .inr (.inl h)
          · exact .inl h
          · exact .inr (.inr h)
        · rintro (h | h | h)
          · exact .inr (.inl h)
          · exact .inl h
          · exact .inr (.inr h)
theorem insS_asc {x : Str} : ∀ {xs : List Str}, Asc xs → Asc (insS x xs)
  | [], _ => List.pairwise_singleton _ _
  | z :: r, h => by
    obtain ⟨h1, h2⟩ := List.pairwise_cons.mp h
    unfold insS
    split
    · exact h
    · rename_i ne
      split
      · rename_i lt
        refine List.pairwise_cons.mpr ⟨fun y hy => ?_, h⟩
        rcases List.mem_cons.mp hy with rfl | hy
        · exact lt
        · exact ltS_tr lt (h1 y hy)
      · rename_i nl
        refine List.pairwise_cons.mpr ⟨fun y hy => ?_, insS_asc h2⟩
        rcases insS_mem.mp hy with rfl | hy
        · cases q : ltS z y with
          | true => rfl
          | false => exact absurd (ltS_tri (by simpa using nl) q) ne
        · exact h1 y hy
theorem srtS_asc : ∀ xs : List Str, Asc (srtS xs)
  | [] => List.Pairwise.nil
  | x :: xs => insS_asc (srtS_asc xs)
theorem srtS_mem {y : Str} : ∀ {xs : List Str}, y ∈ srtS xs ↔ y ∈ xs
  | [] => Iff.rfl
  | x :: xs => by
    show y ∈ insS x (srtS xs) ↔ _
    rw [insS_mem, srtS_mem, List.mem_cons]
theorem asc_eq : ∀ {xs ys : List Str}, Asc xs → Asc ys → (∀ z, z ∈ xs ↔ z ∈ ys) → xs = ys
  | [], [], _, _, _ => rfl
  | [], y :: ys, _, _, h => by have := (h y).mpr List.mem_cons_self; simp at this
  | x :: xs, [], _, _, h => by have := (h x).mp List.mem_cons_self; simp at this
  | x :: xs, y :: ys, h1, h2, h => by
    obtain ⟨a1, b1⟩ := List.pairwise_cons.mp h1
    obtain ⟨a2, b2⟩ := List.pairwise_cons.mp h2
    have e : x = y := by
      rcases List.mem_cons.mp ((h x).mp List.mem_cons_self) with e | hx
      · exact e
      · rcases List.mem_cons.mp ((h y).mpr List.mem_cons_self) with e | hy
        · exact e.symm
        · have z := ltS_tr (a1 y hy) (a2 x hx)
          rw [ltS_irr] at z
          cases z
    subst e
    congr 1
    refine asc_eq b1 b2 fun z => ⟨fun hz => ?_, fun hz => ?_⟩
    · rcases List.mem_cons.mp ((h z).mp (List.mem_cons_of_mem _ hz)) with e | hz2
      · subst e
        have q := a1 z hz
        rw [ltS_irr] at q
        cases q
      · exact hz2
    · rcases List.mem_cons.mp ((h z).mpr (List.mem_cons_of_mem _ hz)) with e | hz2
      · subst e
        have q := a2 z hz
        rw [ltS_irr] at q
        cases q
      · exact hz2
theorem rising_asc : ∀ {r : List Str} {p : Str}, risingS p r = true → (p :: r).Nodup → Asc (p :: r)
  | [], _, _, _ => List.pairwise_singleton _ _
  | x :: r, p, h, nd => by
    have h : (!ltS x p && risingS x r) = true := h
    rw [Bool.and_eq_true] at h
    rw [List.nodup_cons] at nd
    have ih := rising_asc h.2 nd.2
    have lt : ltS p x = true := by
      cases q : ltS p x with
      | true => rfl
      | false => exact absurd (ltS_tri q (by simpa using h.1)) (fun z => nd.1 (by rw [z]; exact List.mem_cons_self))
    refine List.pairwise_cons.mpr ⟨fun y hy => ?_, ih⟩
    rcases List.mem_cons.mp hy with rfl | hy
    · exact lt
    · exact ltS_tr lt ((List.pairwise_cons.mp ih).1 y hy)
theorem sorted_srt {ys xs : List Str} (h : sortedS ys = true) (nd : ys.Nodup) (hm : ∀ x, x ∈ ys ↔ x ∈ xs) : ys = srtS xs := by
  refine asc_eq ?_ (srtS_asc xs) fun z => (hm z).trans srtS_mem.symm
  cases ys with
  | nil => exact List.Pairwise.nil
  | cons y r => exact rising_asc h nd
end F

/-! sorted(set(xs)) of texts: the rules -/
namespace SW
open PySem PySem.Spec PyProof.Rows L2
def SwK (P : Program) (w : World) (a : Addr) (S : Key → Bool) (n : Nat) : HO := .ext fun h => Sw (mixKind P w) h a S n
section
variable {X : Cx}
theorem swK_new {w : World} {P : Program} {H : Hp} {h : Heap} {a : Addr} {S : Key → Bool} {n : Nat} (R : Sw (mixKind P w) h a S n) : ObjOk P w H h a (SwK P w a S n) := by
  have ⟨o, _, _, _, q⟩ := R
  exact ⟨R, ⟨o, q.ho⟩, fun h1 h2 p k => Sw.keep p k⟩
theorem swK_get {pins : List (Addr × Obj)} {σ : L2.St} {H : Hp} {s : Shared} {a : Addr} {S : Key → Bool} {n : Nat} (I : Inv X pins σ H s) (ha : H a = some (SwK X.prog X.w a S n)) : Sw (mixKind X.prog X.w) s.heap a S n := (I.hok a _ ha).1
def rSetS (K : PySem.W.Frag) (P : Program) (w : World) : List V → Hp → VK → Prop := fun vs H Q => ∃ (q : Addr) (xs : List Str), vs = [V.ref q] ∧ (SqL K H q (xs.map V.str) ∨ SqT K H q (xs.map V.str)) ∧ xs.length < 1000 ∧
  ∀ (p : Addr) (S : Key → Bool) (n : Nat), H p = none → (∀ k, S k = true ↔ ∃ x ∈ xs, k = .inr x) → n ≤ xs.length → Q (.ref p) (upd H p (SwK P w p S n))
theorem cr_setS (hc : X.calm = true) : CallR X (.type "set") (rSetS X.K X.prog X.w) := by
  intro pins s σ H vs us Q I r h
  obtain ⟨q, xs, rfl, hq, hl, k⟩ := h
  rw [Vals.ref1 r]
  have hb : ∀ {its : List Value}, Vals (xs.map V.str) its → its.toArray.size + 1 < scanBound := fun {its} rv => by
    have e := rv.length
    rw [List.length_map] at e
    have : its.toArray.size = xs.length := by simp [← e]
    rw [this]
    exact Nat.lt_of_lt_of_le (Nat.succ_lt_succ hl) (by decide)
  have hv : ∀ {its : List Value}, Vals (xs.map V.str) its → ∀ (i : Nat) (v : Value), its.toArray[i]? = some v → (mixKind X.prog X.w).is (.inr (xs.getD i "")) v = true ∧ v.scannable = true := fun {its} rv i v e => by
    have e : its[i]? = some v := by simpa using e
    obtain ⟨x, t, rfl⟩ := rv.strs.all v (List.mem_of_getElem? e)
    have ex : xs[i]? = some x := by
      rw [← rv.strs.strs, List.getElem?_map, e]
      rfl
    rw [List.getD_eq_getElem?_getD, ex]
    exact ⟨mixKind_str _ _ x t, rfl⟩
  have fin : ∀ {its : List Value}, Vals (xs.map V.str) its → ∀ (h' : Heap) (tk : Nat), Has (mixKind X.prog X.w) h' s.heap.objs.size (fun i => .inr (xs.getD i "")) its.toArray.size → (∀ b o, b < s.heap.objs.size → s.heap.get? b = some o → h'.get? b = some o) → EP X pins σ Q (.ref s.heap.objs.size) { s with heap := h', toks := tk } := fun {its} rv h' tk hS keep => by
    obtain ⟨S, n, R, ln, hj⟩ := hS
    have e := rv.length
    rw [List.length_map] at e
    have sz : its.toArray.size = xs.length := by simp [← e]
    rw [sz] at ln hj
    refine ⟨.ref _, upd H s.heap.objs.size (SwK X.prog X.w s.heap.objs.size S n), I.laid (t' := tk) (fun b u e => keep b u (Heap.lt_size e) e) (Nat.le_refl _) (swK_new R), rfl, k _ S n (I.hok.fresh (Nat.le_refl _)) (fun key => (hj key).trans ⟨?_, ?_⟩) ln⟩
    · rintro ⟨i, hi, rfl⟩
      refine ⟨xs[i], List.getElem_mem hi, ?_⟩
      simp [hi]
    · rintro ⟨x, hx, rfl⟩
      obtain ⟨i, hi, rfl⟩ := List.mem_iff_getElem.mp hx
      exact ⟨i, hi, by simp [hi]⟩
  rcases hq with hq | hq
  · obtain ⟨its, rv, pl, hz⟩ := I.list hq
    exact set_list (knd := mixKind X.prog X.w) (val := fun i => .inr (xs.getD i "")) (I.ok.hd hc) pl.isList (hv rv) (hb rv) (fin rv)
  · obtain ⟨its, rv, pl, hz⟩ := I.tuple hq
    exact set_tuple (knd := mixKind X.prog X.w) (val := fun i => .inr (xs.getD i "")) (I.ok.hd hc) pl (hv rv) (hb rv) (fin rv)
def rSortW (P : Program) (w : World) : List V → Hp → VK → Prop := fun vs H Q => ∃ (a : Addr) (S : Key → Bool) (n : Nat), vs = [V.ref a] ∧ H a = some (SwK P w a S n) ∧ (∀ k, S k = true → ∃ x, k = .inr x) ∧ n < 64 ∧
  ∀ (ys : List Str) (p : Addr), sortedS ys = true → ys.Nodup → (∀ x, x ∈ ys ↔ S (.inr x) = true) → H p = none → Q (.ref p) (upd H p (.lst (ys.map V.str)))
theorem cr_sortedW (hc : X.calm = true) : CallR X (.builtin "sorted") (rSortW X.prog X.w) := by
  intro pins s σ H vs us Q I r h
  obtain ⟨a, S, n, rfl, ha, hS, h64, q⟩ := h
  rw [Vals.ref1 r]
  refine sorted_sw (swK_get I ha) hS (I.ok.hd hc) h64 fun s' p out c ys k g o hp hg hi hs hn hm hl => ?_
  have hlen : (ys.map V.str).length ≤ sizeLine := by rw [List.length_map, hl, sizeLine_eq]; omega
  have hf : H p = none := I.hok.fresh hp
  have J : Inv X pins σ (upd H p (.lst (ys.map V.str))) { s with heap := s'.heap, gens := s'.gens, drawn := s'.drawn, toks := s'.toks } := I.call (ch := []) (Un.laid k hp hf) (I.hok.laid k hp ⟨hlen, out.toList, c, vals_of_strs hi, hg⟩) (by rw [g]; exact I.bare) (fun _ z => nomatch z)
  have e : s' = { s with heap := s'.heap, gens := s'.gens, drawn := s'.drawn, toks := s'.toks } := by
    cases s'
    cases s
    cases o
    rfl
  rw [e]
  exact ⟨.ref p, _, J, rfl, q ys p hs hn hm hf⟩
end
end SW
namespace F
open PySem PySem.Spec PyProof.Rows L2 Evl
def dSrt (cs : Cells) (d : D) : Option D := match seqOf cs d with
  | some xs => (match strsOf xs with
    | some ws => if ws.length < 64 then some (.lst ((srtS ws).map D.str)) else none
    | none => none)
  | none => none
theorem rep_strs {Z : Sx} {W : Wd} : ∀ {ws : List Str}, (∀ x ∈ ws, x.length ≤ sizeLine) → RepA Z W (ws.map V.str) (ws.map D.str)
  | [], _ => .nil
  | x :: ws, h => .cons (.str (h x List.mem_cons_self)) (rep_strs fun y hy => h y (List.mem_cons_of_mem _ hy))
theorem strs_len {Z : Sx} {W : Wd} : ∀ {ds : List D} {vs : List V} {ws : List Str}, RepA Z W vs ds → strsOf ds = some ws → ∀ x ∈ ws, x.length ≤ sizeLine
  | [], _, ws, _, h, x, hx => by cases h; simp at hx
  | d :: ds, _, ws, r, h, x, hx => by
    cases r with
    | cons r1 r2 =>
      cases d with
      | str y =>
        have h : (strsOf ds).map (y :: ·) = some ws := h
        cases q : strsOf ds with
        | none => rw [q] at h; cases h
        | some w2 =>
          rw [q] at h
          cases h
          rcases List.mem_cons.mp hx with rfl | hx
          · exact (rep_str r1).2
          · exact strs_len r2 q x hx
      | _ => cases h
section
variable {X : Cx} {z : ZT} {e : Expr} {fe : XE} {p1 p2 pos1 pos2 : Pos}
theorem je_srt (hc : X.calm = true) (hg1 : Gl X "sorted") (hm1 : X.mg "sorted" = none) (hg2 : Gl X "set") (hm2 : X.mg "set" = none) (h : JE X z e fe) (hs : starEach [e] X.env = [(false, eval e X.env)] := by rfl)
    (hs2 : starEach [.Call (.Name "set" p2) [e] [] pos2] X.env = [(false, eval (.Call (.Name "set" p2) [e] [] pos2) X.env)] := by rfl) : JE X z (.Call (.Name "sorted" p1) [.Call (.Name "set" p2) [e] [] pos2] [] pos1) (x1 dSrt fe) :=
  ⟨fun B Er tk => pe_imp (pe_callB (SW.cr_sortedW hc) hg1 hm1 (by decide +kernel) (pa_cons (pe_callTy (SW.cr_setS hc) hg2 hm2 (by decide +kernel) (pa_cons (h.run B Er tk) pa_nil hs) (by decide) (by decide) hs rfl) pa_nil hs2) (by decide) (by decide) hs2 rfl) fun σ H Q ⟨W, cs, l, s, lr, w⟩ => by
  refine ⟨W, cs, l, s, lr, wp_imp (wp_bd.mp w) (fun d cs1 w1 W1 v1 H1 le1 o1 s1 r1 => ?_) fun _ _ h => h⟩
  obtain ⟨r, hr, k⟩ := wp_rd.mp w1
  unfold dSrt at hr
  split at hr
  · rename_i xs hx
    split at hr
    · rename_i ws hw
      split at hr
      · rename_i h64
        cases hr
        obtain ⟨a, us, rfl, hq, ra⟩ := seq_ok s1 r1 hx
        have eu := strs_ok ra hw
        subst eu
        refine ⟨a, ws, rfl, hq, by omega, fun p S n hp hS ln => ⟨p, S, n, rfl, upd_same, fun key hk => ?_, by omega, fun ys q hs1 hn hm hq2 => ?_⟩⟩
        · obtain ⟨x, _, rfl⟩ := (hS key).mp hk
          exact ⟨x, rfl⟩
        · have ey : ys = srtS ws := sorted_srt hs1 hn fun x => (hm x).trans ((hS _).trans ⟨fun ⟨y, hy, e⟩ => by cases e; exact hy, fun hy => ⟨x, hy, rfl⟩⟩)
          subst ey
          have s2 := s1.new (o := SW.SwK X.prog X.w p S n) hp
          have le2 := s1.leNew (o := SW.SwK X.prog X.w p S n) hp
          refine k _ _ _ ((le1.trans le2).trans (s2.leNew hq2)) o1 (s2.new hq2) (.lst upd_same (rep_strs fun x hx => strs_len ra hw x (srtS_mem.mp hx)))
      · cases hr
    · cases hr
  · cases hr⟩
end
end F

/-! str(o), bool(o) by own methods; bool of a list or tuple -/
namespace F
open PySem PySem.Spec L2 Evl PyProof.Rows
section
variable {prog : Program} {w : World} {A : Around} {E : Value → Shared → Prop} {s : Shared}
theorem call_boolT {v : Value} {Q : Value → Shared → Prop} (h : wpAny (model prog w) A.in1.in1 (truthy v) (fun b s1 => Q (.bool b) s1) E s) : wpAny (model prog w) A (call (.type "bool") [v]) Q E s := by
  refine callType_codes (T := "bool") (Bi := Builtin.«object.__init__») (Q₁ := fun r s₁ => ∃ b, r = .bool b ∧ Q r s₁) PySem.F.called_bool (PySem.F.typeCall_bool_1 _) PySem.F.entry_object_init ?_ ?_
  · refine codeAny_of_tree ?_
    show wpAny _ A.in1.in1 (do checkBuiltinCall "bool.__new__" ⟨[.type "bool", v], []⟩; again (.builtin "bool.__new__" ⟨[.type "bool", v], []⟩)) _ _ s
    refine wpAny_bind (wpAny_of_eq (PySem.F.newCall_bool_1 _) (wpAny_pure ⟨plainId_quiet (by decide +kernel) _, codeAny_builtin PySem.F.entry_bool_new ?_⟩))
    rw [Around.under_plainId (by decide +kernel) _]
    have e : Builtin.«bool.__new__» ⟨[.type "bool", v], []⟩ = (do
      if !(← isType (.type "bool")) then
        rule "bool.__new__.no-type"; raiseError "TypeError" s!"bool.__new__(X): X is not a type object ({← typeNameOf (.type "bool")})"
      if !(← isSubtype (.type "bool") (.type "bool")) then
        rule "bool.__new__.no-subtype"; raiseError "TypeError" s!"bool.__new__({← typeName (.type "bool")}): {← typeName (.type "bool")} is not a subtype of bool"
      ret (.bool (← truthy v))) := rfl
    rw [e]
    refine wpAny_bind (wpAny_pure ?_)
    refine wpAny_bind (wpAny_of_eq PySem.F.conv_sub_bool ?_)
    exact wpAny_bind (wpAny_mono h (fun b s₁ hr => wpAny_pure ⟨b, rfl, hr⟩) fun _ _ y => y)
  · rintro obj s₁ ⟨b, rfl, hq⟩
    exact ⟨PySem.typeIs_bool _ _, PySem.F.args_object_init_2 _ _, object_init_meets PySem.F.called_bool.init.lookup PySem.F.called_bool.made (by decide) prog w A.in1 _ s₁ ⟨PySem.typeIs_bool _ _, rfl, hq⟩⟩
end
def asTx (d : D) : EM D := match d with
  | .str x => rt (.str x)
  | _ => no
def asBl (d : D) : EM D := match d with
  | .bl b => rt (.bl b)
  | _ => no
/-- m(d), d an instance with own m -/
def spDyn (t : EqT) (as : D → EM D) (d : D) : EM D := fun cs => match insOf cs d with
  | some (c, _) => match t.at_ c with
    | some Fe => bd (nox (Fe [d] [])) as cs
    | none => .no
  | none => .no
def xStrI (t : EqT) (fa : XE) : XE := fun l => bd (fa l) fun d => nox (spDyn t asTx d)
def xBoolI (t : EqT) (fa : XE) : XE := fun l => bd (fa l) fun d => nox (spDyn t asBl d)
theorem spDyn_ok {X : Cx} {k : Nat} {t : EqT} {as : D → EM D} {m : Str} (o : SpOk X.prog X.w X.K X.mg X.base k m t) {W : Wd} {cs : Cells} {H : Hp} {x : V} {d : D} {Q : VK} (ss : S (sx X) W cs H) (rx : Rep (sx X) W x d) (w : wp (spDyn t as d) cs (okP (sx X) W Q) fun _ _ => False) :
    ∃ a Cl dx fs g Fe, x = .ref a ∧ H a = some (.ins Cl dx fs) ∧ PySem.W.findIn X.K (.ref Cl) m = some (some (.ref g)) ∧ PySem.W.isFn X.K (.ref g) = true ∧ FnG X.prog X.w X.K X.mg X.base k g [] Fe ∧ wp (bd (nox (Fe [d] [])) as) cs (okP (sx X) W Q) fun _ _ => False := by
  cases q : insOf cs d with
  | none =>
    have e1 : spDyn t as d cs = (no : EM D) cs := by unfold spDyn; rw [q]; rfl
    exact (wp_congr e1 w).elim
  | some cf =>
    obtain ⟨c, fs⟩ := cf
    obtain ⟨a, Cl, dx, vs, rfl, m, ha, rf⟩ := insOf_ok ss rx q
    cases qe : t.at_ c with
    | none =>
      have e1 : spDyn t as d cs = (no : EM D) cs := by unfold spDyn; rw [q]; dsimp only; rw [qe]; rfl
      exact (wp_congr e1 w).elim
    | some Fe =>
      have e1 : spDyn t as d cs = bd (nox (Fe [d] [])) as cs := by unfold spDyn; rw [q]; dsimp only; rw [qe]
      obtain ⟨g, h1, h2, h3⟩ := o.get qe m
      exact ⟨a, Cl, dx, vs, g, Fe, rfl, ha, h1, h2, h3, wp_congr e1 w⟩
section
variable {X : Cx} {k j : Nat} {t : EqT}
def rSpI (Z : Sx) (t : EqT) (as : D → EM D) : List V → Hp → VK → Prop := fun xs H Q => ∃ W cs x d, xs = [x] ∧ S Z W cs H ∧ Rep Z W x d ∧ wp (spDyn t as d) cs (okP Z W Q) fun _ _ => False
theorem cd_strI (o : SpOk X.prog X.w X.K X.mg X.base k "__str__" t) (hr : RmG (k + 2) X.A) : CallR X (.type "str") (rSpI (sx X) t asTx) := by
  intro pins s σ H xs us Q I rv h
  obtain ⟨W, cs, x, d, rfl, ss, rx, w⟩ := h
  obtain ⟨a, Cl, dx, fs, g, Fe, rfl, ha, h1, h2, h3, w1⟩ := spDyn_ok o ss rx w
  cases rv with
  | cons r1 r2 =>
    cases r2
    cases r1
    obtain ⟨mA, OM, _⟩ := ins_get I.hok ha
    obtain ⟨od, J, _⟩ := OM.look
    have hr2 : RmG k X.A.in1.in1 := (RmG.in1 (k := k + 1) hr).in1
    refine PySem.W.kso_call (by have := hr2.room.un; omega) I.kIn J h1 h2 ?_
    have hsp : spF (sx X) Fe [.ref a] [] H (fun v H' => ∃ y : Str, v = .str y ∧ Q (.str y) H') (fun _ _ _ => False) := by
      refine ⟨W, cs, [d], [], ss, .cons rx .nil, .nil, wp_imp (wp_nox (wp_bd.mp w1)) (fun d' cs' w2 W' v H' le o s' rv' => ?_) (E := fun _ _ => False) fun _ _ h => h.elim⟩
      cases d' with
      | str y =>
        obtain ⟨rfl, hl⟩ := rep_str rv'
        exact ⟨y, rfl, w2 W' _ H' le o s' rv'⟩
      | _ => exact w2.elim
    refine wpAny_call (codeAny_mono (h3 X.A.in1.in1 X.stack s H [.ref a] [.ref a] [] [] _ _ hr2 I.env0.in1.in1 (.cons rfl .nil) .nil rfl hsp) fun rr s' hq => ?_)
    cases rr with
    | error e => exact noPass (fun _ _ _ h => h) pins σ H s e s' I hq
    | ok fl =>
      cases fl with
      | ret u =>
        obtain ⟨v, H', I', rv, y, ey, qn⟩ := I.after hq
        subst ey
        obtain ⟨tk, rfl⟩ := rv
        exact ⟨.str y, H', I', ⟨_, rfl⟩, qn⟩
      | next => exact False.elim hq
      | brk => exact False.elim hq
      | cont => exact False.elim hq
theorem cd_boolI (o : SpOk X.prog X.w X.K X.mg X.base k "__bool__" t) (hr : RmG (k + 2) X.A) : CallR X (.type "bool") (rSpI (sx X) t asBl) := by
  intro pins s σ H xs us Q I rv h
  obtain ⟨W, cs, x, d, rfl, ss, rx, w⟩ := h
  obtain ⟨a, Cl, dx, fs, g, Fe, rfl, ha, h1, h2, h3, w1⟩ := spDyn_ok o ss rx w
  cases rv with
  | cons r1 r2 =>
    cases r2
    cases r1
    obtain ⟨mA, OM, _⟩ := ins_get I.hok ha
    obtain ⟨od, J, _⟩ := OM.look
    obtain ⟨mm, hF⟩ := I.fr
    have hr2 : RmG k X.A.in1.in1 := (RmG.in1 (k := k + 1) hr).in1
    refine call_boolT (PySem.W.truthy_K hF I.ok.mod.kin J h1 h2 ?_)
    have hsp : spF (sx X) Fe [.ref a] [] H (fun v H' => ∃ y : Bool, v = .bl y ∧ Q (.bl y) H') (fun _ _ _ => False) := by
      refine ⟨W, cs, [d], [], ss, .cons rx .nil, .nil, wp_imp (wp_nox (wp_bd.mp w1)) (fun d' cs' w2 W' v H' le o s' rv' => ?_) (E := fun _ _ => False) fun _ _ h => h.elim⟩
      cases d' with
      | bl y =>
        cases rep_bl rv'
        exact ⟨y, rfl, w2 W' _ H' le o s' rv'⟩
      | _ => exact w2.elim
    refine wpAny_call (codeAny_mono (h3 X.A.in1.in1 X.stack s H [.ref a] [.ref a] [] [] _ _ hr2 I.env0.in1.in1 (.cons rfl .nil) .nil rfl hsp) fun rr s' hq => ?_)
    cases rr with
    | error e => exact noPass (fun _ _ _ h => h) pins σ H s e s' I hq
    | ok fl =>
      cases fl with
      | ret u =>
        obtain ⟨v, H', I', rv, y, ey, qn⟩ := I.after hq
        subst ey
        cases rv
        exact ⟨.bl y, H', I', rfl, qn⟩
      | next => exact False.elim hq
      | brk => exact False.elim hq
      | cont => exact False.elim hq
end
section
variable {X : Cx} {z : ZT} {e : Expr} {fa : XE} {k j : Nat} {t : EqT} {p pos : Pos}
theorem spT {as : D → EM D} {B : Wd} {Er : Exn → Loc → Cells → Prop} {σ : L2.St} {H : Hp} {Q : VK} (h : tE (sx X) z B (fun l => bd (fa l) fun d => nox (spDyn t as d)) Er σ H Q) : tE (sx X) z B fa Er σ H fun x H1 => rSpI (sx X) t as [x] H1 Q := by
  obtain ⟨W, cs, l, s, lr, w⟩ := h
  refine ⟨W, cs, l, s, lr, wp_imp (wp_bd.mp w) (fun d cs1 w1 W1 v H1 le1 o1 s1 r1 => ?_) fun _ _ h => h⟩
  exact ⟨W1, cs1, v, d, rfl, s1, r1, wp_imp (wp_nox w1) (fun d' cs' w2 W' v' H' le o s' rv => w2 W' v' H' (le1.trans le) (o.trans o1) s' rv) fun _ _ h => h⟩
theorem je_strI (o : SpOk X.prog X.w X.K X.mg X.base k "__str__" t) (hr : RmG j X.A) (hk : k + 2 ≤ j) (hg : Gl X "str") (hm : X.mg "str" = none) (h : JE X z e fa) (hs : starEach [e] X.env = [(false, eval e X.env)] := by rfl) : JE X z (.Call (.Name "str" p) [e] [] pos) (xStrI t fa) :=
  ⟨fun B Er tk => pe_imp (pe_callTy (cd_strI o (hr.mono hk)) hg hm (by decide +kernel) (pa_cons (h.run B Er tk) pa_nil hs) (by decide) (by decide) hs rfl) fun σ H Q w => spT w⟩
theorem je_boolI (o : SpOk X.prog X.w X.K X.mg X.base k "__bool__" t) (hr : RmG j X.A) (hk : k + 2 ≤ j) (hg : Gl X "bool") (hm : X.mg "bool" = none) (h : JE X z e fa) (hs : starEach [e] X.env = [(false, eval e X.env)] := by rfl) : JE X z (.Call (.Name "bool" p) [e] [] pos) (xBoolI t fa) :=
  ⟨fun B Er tk => pe_imp (pe_callTy (cd_boolI o (hr.mono hk)) hg hm (by decide +kernel) (pa_cons (h.run B Er tk) pa_nil hs) (by decide) (by decide) hs rfl) fun σ H Q w => spT w⟩
/-- bool of a list or tuple -/
def dBoolQ (cs : Cells) (d : D) : Option D := (seqOf cs d).map fun xs => .bl (!xs.isEmpty)
theorem cr_boolQ : CallR X (.type "bool") (fun xs H Q => ∃ (a : Addr) (zs : List V), xs = [.ref a] ∧ (SqL X.K H a zs ∨ SqT X.K H a zs) ∧ Q (.bl (!zs.isEmpty)) H) := by
  intro pins s σ H xs us Q I r h
  obtain ⟨a, zs, rfl, hq, q⟩ := h
  obtain rfl := Vals.ref1 r
  rcases hq with hq | hq
  · obtain ⟨its, rv, pl, hz⟩ := I.list hq
    have hl := line63
    have hlen := rv.length
    exact call_boolT (wpAny_truthy_list pl.isList (by simp only [List.size_toArray]; omega) ⟨.bl (!zs.isEmpty), H, I.tok _, by rw [isEmpty_of rv]; rfl, q⟩)
  · obtain ⟨its, rv, pl, hz⟩ := I.tuple hq
    have hl := line63
    have hlen := rv.length
    exact call_boolT (truthy_tuple pl (by simp only [List.size_toArray]; omega) ⟨.bl (!zs.isEmpty), H, I.tok _, by rw [isEmpty_of rv]; rfl, q⟩)
theorem je_boolQ (hg : Gl X "bool") (hm : X.mg "bool" = none) (h : JE X z e fa) (hs : starEach [e] X.env = [(false, eval e X.env)] := by rfl) : JE X z (.Call (.Name "bool" p) [e] [] pos) (x1 dBoolQ fa) :=
  ⟨fun B Er tk => pe_imp (pe_callTy cr_boolQ hg hm (by decide +kernel) (pa_cons (h.run B Er tk) pa_nil hs) (by decide) (by decide) hs rfl) fun σ H Q ⟨W, cs, l, s, lr, w⟩ => by
  refine ⟨W, cs, l, s, lr, wp_imp (wp_bd.mp w) (fun d cs1 w1 W1 v1 H1 le1 o1 s1 r1 => ?_) fun _ _ h => h⟩
  obtain ⟨r, hr, k⟩ := wp_rd.mp w1
  cases q : seqOf cs1 d with
  | none => unfold dBoolQ at hr; rw [q] at hr; cases hr
  | some xs =>
    unfold dBoolQ at hr
    rw [q] at hr
    cases hr
    obtain ⟨a, us, rfl, hq, ra⟩ := seq_ok s1 r1 q
    have e2 : us.isEmpty = xs.isEmpty := by cases ra <;> rfl
    refine ⟨a, us, rfl, hq, ?_⟩
    rw [e2]
    exact k _ _ _ le1 o1 s1 (.bl _)⟩
end
end F

/-! f"..{e}.." of texts -/
namespace F
open PySem PySem.Spec L2 Evl PyProof.Rows
def dFmt (_ : Cells) (d : D) : Option D := match d with
  | .str y => some (.str y)
  | _ => none
/-- the texts one behind the other -/
def xJs : List XE → Str → XE
  | [], acc => fun _ => rt (.str acc)
  | f :: fs, acc => fun l => bd (f l) fun d => match d with
    | .str y => if (acc ++ y).length ≤ sizeLine then xJs fs (acc ++ y) l else no
    | _ => no
inductive JJ (X : Cx) (z : ZT) : List Expr → List XE → Prop where
  | nil : JJ X z [] []
  | cons {e : Expr} {f : XE} {es : List Expr} {fs : List XE} (h : JE X z e f) (r : JJ X z es fs) : JJ X z (e :: es) (f :: fs)
section
variable {X : Cx} {z : ZT}
theorem jj_run {B : Wd} {Er : Exn → Loc → Cells → Prop} (tk : Takes X (wx (sx X) z B Er)) : ∀ {es : List Expr} {fs : List XE}, JJ X z es fs → PJ X es (fs.map fun f => tE (sx X) z B f Er) := by
  intro es fs h
  induction h with
  | nil => exact .nil
  | cons h r ih => exact .cons (h.run B Er tk) ih
theorem js_T {B : Wd} {Er : Exn → Loc → Cells → Prop} {σ : L2.St} {Q : VK} : ∀ (fs : List XE) (acc : Str) (H : Hp), acc.length ≤ sizeLine → tE (sx X) z B (xJs fs acc) Er σ H Q → tJs (fs.map fun f => tE (sx X) z B f Er) acc σ H fun out H1 => Q (.str out) H1
  | [], acc, H, hz, h => by
    obtain ⟨W, cs, l, s, lr, w⟩ := h
    exact w W (.str acc) H (.refl _) (.refl _) s (.str hz)
  | f :: fs, acc, H, hz, h => by
    obtain ⟨W, cs, l, s, lr, w⟩ := h
    refine ⟨W, cs, l, s, lr, wp_imp (wp_bd.mp w) (fun d cs1 w1 W1 v H1 le1 o1 s1 r1 => ?_) fun _ _ h => h⟩
    cases d with
    | str y =>
      obtain ⟨rfl, hl⟩ := rep_str r1
      have w2 : wp (if (acc ++ y).length ≤ sizeLine then xJs fs (acc ++ y) l else no) cs1 _ _ := w1
      split at w2
      · rename_i hy
        exact ⟨y, rfl, hy, js_T fs (acc ++ y) H1 hy ⟨W1, cs1, l, s1, lr.mono le1 o1, wp_imp w2 (fun d' cs' w3 W' v' H' le o s' rv => w3 W' v' H' (le1.trans le) (o.trans o1) s' rv) fun _ _ h => h⟩⟩
      · exact w2.elim
    | _ => exact w1.elim
theorem je_js {v1 v2 : Expr} {rest : List Expr} {fs : List XE} {pos : Pos} (h : JJ X z (v1 :: v2 :: rest) fs) : JE X z (.JoinedStr (v1 :: v2 :: rest) pos) (xJs fs "") :=
  ⟨fun B Er tk => pe_imp (pe_joined (jj_run tk h)) fun σ H Q w => js_T fs Str.empty H (Nat.zero_le _) w⟩
theorem je_fmt {e : Expr} {fa : XE} {pos : Pos} (h : JE X z e fa) : JE X z (.FormattedValue e (-1) none pos) (x1 dFmt fa) :=
  ⟨fun B Er tk => pe_imp (pe_fmt (h.run B Er tk)) fun σ H Q ⟨W, cs, l, s, lr, w⟩ => by
  refine ⟨W, cs, l, s, lr, wp_imp (wp_bd.mp w) (fun d cs1 w1 W1 v1 H1 le1 o1 s1 r1 => ?_) fun _ _ h => h⟩
  obtain ⟨r, hr, k⟩ := wp_rd.mp w1
  cases d with
  | str y =>
    cases hr
    obtain ⟨rfl, hl⟩ := rep_str r1
    exact .inl ⟨y, rfl, hl, k _ _ _ le1 o1 s1 r1⟩
  | _ => cases hr⟩
end
/-! a + b of lists, as a cell -/
def catC (cs : Cells) (x y : D) : Option (List D) := match catL cs x y with
  | some (.lst zs) => some zs
  | _ => none
def xAddC (fa fb : XE) : XE := fun l => bd (fa l) fun x => bd (fb l) fun y => bd (rd fun cs => catC cs x y) fun zs => newC (.lst zs)
section
variable {X : Cx} {z : ZT} {a b : Expr} {fa fb : XE} {pos : Pos}
theorem je_addC (ha : JE X z a fa) (hb : JE X z b fb) : JE X z (.BinOp a .Add b pos) (xAddC fa fb) := ⟨fun B Er tk => pe_imp (pe_op E.op_addU (ha.run B Er tk) (hb.run B Er tk)) fun σ H Q ⟨W, cs, l, s, lr, w⟩ => by
  refine ⟨W, cs, l, s, lr, wp_imp (wp_bd.mp w) (fun d cs1 w1 W1 v1 H1 le1 o1 s1 r1 => ?_) fun _ _ h => h⟩
  refine ⟨W1, cs1, l, s1, lr.mono le1 o1, wp_imp (wp_bd.mp w1) (fun e cs2 w2 W2 v2 H2 le2 o2 s2 r2 => ?_) fun _ _ h => h⟩
  obtain ⟨zs, hx, k⟩ := wp_rd.mp (wp_bd.mp w2)
  unfold catC catL at hx
  split at hx
  · rename_i zs' h
    cases hx
    split at h
    · rename_i xs ys e1 e2
      split at h
      · rename_i c
        cases h
        obtain ⟨p, us, rfl, ha, ra⟩ := ls_ok s2 (r1.mono le2) e1
        obtain ⟨q, ws, rfl, hb, rb⟩ := ls_ok s2 r2 e2
        refine E.g_addL ha hb (by rw [ra.length, rb.length]; exact fitB_ok c) fun n hn => ?_
        exact k _ _ _ ((le1.trans le2).trans (Le.cel W2 n)) (o2.trans o1) (s2.cell (c := .lst (xs ++ ys)) hn ⟨_, rfl, (ra.append rb).mono (Le.cel W2 n)⟩) (rep_last s2)
      · cases h
    · cases h
  · cases hx⟩
end
end F

/-! plain lemmas: what the words do -/
namespace F
open PySem L2
section
variable {α β : Type} {cs : Cells} {l : Loc} {Q : D → Cells → Prop} {R : Bool → Cells → Prop} {U : List D → Cells → Prop} {V : Option Int → Cells → Prop} {E : Exn → Cells → Prop} {P : Fl → Cells → Prop} {fa fb fc fo fi fv : XE} {f f2 : XA} {t u : XB} {b c : XS} {i j k : Nat}
theorem wp_iff {m : EM α} {Z Z' : α → Cells → Prop} {E' : Exn → Cells → Prop} (h : ∀ a cs, Z a cs ↔ Z' a cs) (k : ∀ x cs, E x cs ↔ E' x cs) : wp m cs Z E ↔ wp m cs Z' E' := by
  unfold wp
  cases m cs with
  | ok a cs' => exact h a cs'
  | exc x cs' => exact k x cs'
  | no => exact Iff.rfl
theorem w_ite {p : Prop} [Decidable p] {m m' : EM α} {Z : α → Cells → Prop} : wp (if p then m else m') cs Z E ↔ if p then wp m cs Z E else wp m' cs Z E := by split <;> exact Iff.rfl
theorem w_var : wp (xVar i l) cs Q E ↔ (match l[i]? with | some (.val d) => Q d cs | some (.me d) => Q d cs | _ => False) := by
  unfold xVar
  generalize l[i]? = o
  rcases o with _ | s
  · exact Iff.rfl
  · cases s <;> exact Iff.rfl
theorem w_c {d : D} : wp (xC d l) cs Q E ↔ Q d cs := Iff.rfl
theorem w_1 {g : Cells → D → Option D} : wp (x1 g fa l) cs Q E ↔ wp (fa l) cs (fun x cs1 => ∃ r, g cs1 x = some r ∧ Q r cs1) E := by
  unfold x1
  simp only [wp_bd, wp_rd]
theorem w_2 {g : Cells → D → D → Option D} : wp (x2 g fa fb l) cs Q E ↔ wp (fa l) cs (fun x cs1 => wp (fb l) cs1 (fun y cs2 => ∃ r, g cs2 x y = some r ∧ Q r cs2) E) E := by
  unfold x2
  simp only [wp_bd, wp_rd]
theorem w_N {g : Cells → List D → Option D} : wp (xN g f l) cs Q E ↔ wp (f l) cs (fun xs cs1 => ∃ r, g cs1 xs = some r ∧ Q r cs1) E := by
  unfold xN
  simp only [wp_bd, wp_rd]
theorem w_bV : wp (bV fa l) cs R E ↔ wp (fa l) cs (fun d cs1 => ∃ k, d = .bl k ∧ R k cs1) E := by
  unfold bV
  rw [wp_bd]
  constructor
  · exact fun h => wp_imp h (fun d cs1 w => asB_ok w) fun _ _ h => h
  · exact fun h => wp_imp h (fun d cs1 ⟨k, e, w⟩ => by rw [e]; exact w) fun _ _ h => h
theorem w_bNot : wp (bNot t l) cs R E ↔ wp (t l) cs (fun k cs1 => R (!k) cs1) E := by unfold bNot; simp only [wp_bd, wp_rt]
theorem w_bOr : wp (bOr t u l) cs R E ↔ wp (t l) cs (fun k cs1 => if k = true then R true cs1 else wp (u l) cs1 R E) E := by unfold bOr; simp only [wp_bd, w_ite, wp_rt]
theorem w_bAnd : wp (bAnd t u l) cs R E ↔ wp (t l) cs (fun k cs1 => if k = true then wp (u l) cs1 R E else R false cs1) E := by unfold bAnd; simp only [wp_bd, w_ite, wp_rt]
theorem w_xOr : wp (xOr fa fb l) cs Q E ↔ wp (bV fa l) cs (fun k cs1 => if k = true then Q (.bl true) cs1 else wp (fb l) cs1 Q E) E := by unfold xOr; simp only [wp_bd, w_ite, wp_rt]
theorem w_xAnd : wp (xAnd fa fb l) cs Q E ↔ wp (bV fa l) cs (fun k cs1 => if k = true then wp (fb l) cs1 Q E else Q (.bl false) cs1) E := by unfold xAnd; simp only [wp_bd, w_ite, wp_rt]
theorem w_xNot : wp (xNot fa l) cs Q E ↔ wp (bV fa l) cs (fun k cs1 => Q (.bl (!k)) cs1) E := by unfold xNot; simp only [wp_bd, wp_rt]
theorem w_xIf : wp (xIf t fa fb l) cs Q E ↔ wp (t l) cs (fun k cs1 => if k = true then wp (fa l) cs1 Q E else wp (fb l) cs1 Q E) E := by unfold xIf; simp only [wp_bd, w_ite]
theorem w_aNil : wp (aNil l) cs U E ↔ U [] cs := Iff.rfl
theorem w_aCons : wp (aCons fa f l) cs U E ↔ wp (fa l) cs (fun d cs1 => wp (f l) cs1 (fun ds cs2 => U (d :: ds) cs2) E) E := by unfold aCons; simp only [wp_bd, wp_rt]
theorem w_aStar : wp (aStar fa f l) cs U E ↔ wp (fa l) cs (fun d cs1 => ∃ xs, seqOf cs1 d = some xs ∧ wp (f l) cs1 (fun ds cs2 => U (xs ++ ds) cs2) E) E := by unfold aStar; simp only [wp_bd, wp_rt, wp_rd]
theorem w_tup : wp (xTup f l) cs Q E ↔ wp (f l) cs (fun ds cs1 => Q (.tup ds) cs1) E := by unfold xTup; simp only [wp_bd, wp_rt]
theorem w_lst : wp (xLst f l) cs Q E ↔ wp (f l) cs (fun ds cs1 => Q (.lst ds) cs1) E := by unfold xLst; simp only [wp_bd, wp_rt]
theorem w_fit {ds : List D} {Z : Unit → Cells → Prop} : wp (fit ds) cs Z E ↔ ds.length ≤ 1000000 ∧ Z () cs := by
  unfold fit
  split
  · rename_i h; exact ⟨fun z => ⟨h, z⟩, fun z => z.2⟩
  · rename_i h; exact ⟨fun z => z.elim, fun z => absurd z.1 h⟩
theorem w_tupS : wp (xTupS f l) cs Q E ↔ wp (f l) cs (fun ds cs1 => ds.length ≤ 1000000 ∧ Q (.tup ds) cs1) E := by unfold xTupS; simp only [wp_bd, wp_rt, w_fit]
theorem w_lstS : wp (xLstS f l) cs Q E ↔ wp (f l) cs (fun ds cs1 => ds.length ≤ 1000000 ∧ Q (.lst ds) cs1) E := by unfold xLstS; simp only [wp_bd, wp_rt, w_fit]
theorem w_lstC : wp (xLstC f l) cs Q E ↔ wp (f l) cs (fun ds cs1 => Q (.cel cs1.length) (cs1 ++ [.lst ds])) E := by unfold xLstC; simp only [wp_bd, wp_newC]
theorem w_listC : wp (xListC fa l) cs Q E ↔ wp (fa l) cs (fun d cs1 => ∃ xs, seqOf cs1 d = some xs ∧ Q (.cel cs1.length) (cs1 ++ [.lst xs])) E := by unfold xListC; simp only [wp_bd, wp_rd, wp_newC]
theorem w_oNone : wp (oNone l) cs V E ↔ V none cs := Iff.rfl
theorem w_oSome : wp (oSome fa l) cs V E ↔ wp (fa l) cs (fun d cs1 => ∃ k, d = .int k ∧ V (some k) cs1) E := by
  unfold oSome
  rw [wp_bd]
  constructor
  · exact fun h => wp_imp h (fun d cs1 w => asI_ok w) fun _ _ h => h
  · exact fun h => wp_imp h (fun d cs1 ⟨k, e, w⟩ => by rw [e]; exact w) fun _ _ h => h
theorem w_sl {a o : XO} : wp (xSl fa a o l) cs Q E ↔ wp (fa l) cs (fun d cs1 => wp (a l) cs1 (fun x cs2 => wp (o l) cs2 (fun y cs3 => ∃ r, slD d x y cs3 = some r ∧ Q r cs3) E) E) E := by unfold xSl; simp only [wp_bd, wp_rd]
theorem w_join : wp (xJoin fa fb l) cs Q E ↔ wp (fa l) cs (fun d cs1 => ∃ a, d = .str a ∧ wp (fb l) cs1 (fun y cs2 => ∃ r, joinD a y cs2 = some r ∧ Q r cs2) E) E := by
  unfold xJoin
  simp only [wp_bd, wp_rd]
  constructor
  · exact fun h => wp_imp h (fun d cs1 w => asS_ok w) fun _ _ h => h
  · exact fun h => wp_imp h (fun d cs1 ⟨k, e, w⟩ => by rw [e]; exact w) fun _ _ h => h
theorem w_call {F : List D → List D → EM D} : wp (xCall F f f2 l) cs Q E ↔ wp (f l) cs (fun ds cs1 => wp (f2 l) cs1 (fun ks cs2 => wp (F ds ks) cs2 Q E) E) E := by unfold xCall; simp only [wp_bd]
theorem w_chk {F : List D → List D → EM D} {ds ks : List D} {n : Nat} : wp (kChk n F ds ks) cs Q E ↔ (ks.length = n ∧ wp (F ds ks) cs Q E) := by
  unfold kChk
  split
  · rename_i h; exact ⟨fun z => ⟨h, z⟩, fun z => z.2⟩
  · rename_i h; exact ⟨fun z => z.elim, fun z => absurd z.1 h⟩
theorem w_nox {m : EM α} {Z : α → Cells → Prop} : wp (nox m) cs Z E ↔ wp m cs Z fun _ _ => False := by
  unfold wp nox
  cases m cs <;> exact Iff.rfl
theorem w_at {T : Tb} {g : Str} : wp (xAtV T i g l) cs Q E ↔ (match l[i]? with
    | some (.own (.ins c fs)) => ∃ r, attI T c g fs = some r ∧ Q r cs
    | some (.val d) => ∃ r, dAt T g cs d = some r ∧ Q r cs
    | some (.me d) => ∃ r, dAt T g cs d = some r ∧ Q r cs
    | _ => False) := by
  unfold xAtV
  generalize l[i]? = o
  rcases o with _ | s
  · exact Iff.rfl
  · cases s with
    | own c => cases c <;> first | exact wp_rd | exact Iff.rfl
    | _ => first | exact wp_rd | exact Iff.rfl
theorem w_lenO : wp (xLenO i l) cs Q E ↔ (match l[i]? with
    | some (.own (.lst xs)) => Q (.int xs.length) cs
    | some (.val d) => ∃ r, dLen cs [d] = some r ∧ Q r cs
    | _ => False) := by
  unfold xLenO
  generalize l[i]? = o
  rcases o with _ | s
  · exact Iff.rfl
  · cases s with
    | own c => cases c <;> first | exact wp_rd | exact Iff.rfl
    | _ => first | exact wp_rd | exact Iff.rfl
theorem w_chain {g g' : Cells → D → D → Option D} : wp (xChain g g' fa fb fc l) cs Q E ↔ wp (fa l) cs (fun x cs1 => wp (fb l) cs1 (fun y cs2 => ∃ r, g cs2 x y = some r ∧ ∃ k, r = .bl k ∧ if k = true then wp (fc l) cs2 (fun w cs3 => ∃ r, g' cs3 y w = some r ∧ Q r cs3) E else Q (.bl false) cs2) E) E := by
  unfold xChain
  simp only [wp_bd, wp_rd]
  constructor
  · refine fun h => wp_imp h (fun x cs1 h => wp_imp h (fun y cs2 ⟨r, hr, h⟩ => ⟨r, hr, ?_⟩) fun _ _ h => h) fun _ _ h => h
    obtain ⟨k, e, w⟩ := asB_ok h
    refine ⟨k, e, ?_⟩
    cases k with
    | true => exact iteT (by simpa only [wp_bd, wp_rd, if_true] using w)
    | false => exact iteF w
  · refine fun h => wp_imp h (fun x cs1 h => wp_imp h (fun y cs2 ⟨r, hr, k, e, h⟩ => ⟨r, hr, ?_⟩) fun _ _ h => h) fun _ _ h => h
    rw [e]
    show wp (if k = true then _ else _) _ _ _
    cases k with
    | true => simpa only [wp_bd, wp_rd, if_true] using h
    | false => exact h
theorem w_tru : wp (bTru fa l) cs R E ↔ wp (fa l) cs (fun d cs1 => ∃ k, truD cs1 d = some k ∧ R k cs1) E := by unfold bTru; simp only [wp_bd, wp_rd]
theorem w_inO {neg : Bool} : wp (bInO neg i fa l) cs R E ↔ wp (fa l) cs (fun d cs1 => match l[i]?, keyOf d with | some (.own (.set ks)), some k => R (hasK ks k != neg) cs1 | _, _ => False) E := by
  unfold bInO
  rw [wp_bd]
  have e : ∀ (o : Option Sl) (d : D) (cs1 : Cells), wp (match o, keyOf d with | some (.own (.set ks)), some k => rt (hasK ks k != neg) | _, _ => no) cs1 R E ↔ match o, keyOf d with | some (.own (.set ks)), some k => R (hasK ks k != neg) cs1 | _, _ => False := by
    intro o d cs1
    generalize keyOf d = q
    rcases o with _ | s
    · exact Iff.rfl
    · cases s with
      | own c => cases c <;> cases q <;> exact Iff.rfl
      | _ => exact Iff.rfl
  constructor
  · exact fun h => wp_imp h (fun d cs1 w => (e _ d cs1).mp w) fun _ _ h => h
  · exact fun h => wp_imp h (fun d cs1 w => (e _ d cs1).mpr w) fun _ _ h => h
theorem w_xf {T : Te} {x g : Str} : wp (xXf T x i g l) cs Q E ↔ (match l[i]? with
    | some (.exn y) => (decide (y.c = x) && T.fld x g) = true ∧ ∃ r, y.fs.lookup g = some r ∧ Q r cs
    | _ => False) := by
  unfold xXf
  generalize l[i]? = o
  rcases o with _ | s
  · exact Iff.rfl
  · cases s with
    | exn y =>
      dsimp only
      rw [w_ite]
      split
      · rename_i hc; exact ⟨fun z => ⟨hc, wp_rd.mp z⟩, fun z => wp_rd.mpr z.2⟩
      · rename_i hc; exact ⟨fun z => z.elim, fun z => absurd z.1 hc⟩
    | _ => exact Iff.rfl
theorem w_isX {T : Te} {T2 : Tb} {tg : Tag} : wp (xIsX T T2 i tg l) cs Q E ↔ (match l[i]? with
    | some (.exn y) => T.has y.c = true ∧ ∃ r, (T2.is (.c y.c) tg).map D.bl = some r ∧ Q r cs
    | _ => False) := by
  unfold xIsX
  generalize l[i]? = o
  rcases o with _ | s
  · exact Iff.rfl
  · cases s with
    | exn y =>
      dsimp only
      rw [w_ite]
      split
      · rename_i hc; exact ⟨fun z => ⟨hc, wp_rd.mp z⟩, fun z => wp_rd.mpr z.2⟩
      · rename_i hc; exact ⟨fun z => z.elim, fun z => absurd z.1 hc⟩
    | _ => exact Iff.rfl
theorem w_eq {eqs : EqT} {ord : OrT} {neg : Bool} : wp (xEq eqs ord neg fa fb l) cs Q E ↔ wp (fa l) cs (fun x cs1 => wp (fb l) cs1 (fun y cs2 => wp (eqDyn eqs ord neg x y) cs2 Q fun _ _ => False) E) E := by unfold xEq; simp only [wp_bd, w_nox]
theorem w_lc {g : XG} {vs : List Nat} : wp (xLc f g t fa vs l) cs Q E ↔ wp (f l) cs (fun ds cs1 => ds.length ≤ 1000000 ∧ wp (compL g t fa (wipeL l vs) ds) cs1 (fun ys cs2 => Q (.lst ys) cs2) E) E := by unfold xLc; simp only [wp_bd, wp_rt, w_fit]
/-! walks -/
theorem w_iSeq : wp (iSeq fa l) cs U E ↔ wp (fa l) cs (fun d cs1 => ∃ xs, frzL d = some xs ∧ U xs cs1) E := by unfold iSeq; simp only [wp_bd, wp_rd]
def enuD : D → Option (List D)
  | .lst xs => some (numbered 0 xs)
  | .wls xs => some (numbered 0 xs)
  | _ => none
theorem w_iEnu : wp (iEnu fa l) cs U E ↔ wp (fa l) cs (fun d cs1 => ∃ r, enuD d = some r ∧ U r cs1) E := by
  unfold iEnu
  simp only [wp_bd, wp_rd]
  refine wp_iff (fun d cs' => ?_) fun _ _ => Iff.rfl
  cases d <;> exact Iff.rfl
theorem w_iStr : wp (iStr fa l) cs U E ↔ wp (fa l) cs (fun d cs1 => ∃ x, d = .str x ∧ U (x.cps.toList.map fun c => D.str ⟨#[c]⟩) cs1) E := by
  unfold iStr
  simp only [wp_bd, wp_rt]
  constructor
  · exact fun h => wp_imp h (fun d cs1 w => asS_ok w) fun _ _ h => h
  · exact fun h => wp_imp h (fun d cs1 ⟨k, e, w⟩ => by rw [e]; exact w) fun _ _ h => h
theorem w_iRng : wp (iRng fa l) cs U E ↔ wp (fa l) cs (fun d cs1 => ∃ j : Int, d = .int j ∧ (-1000000 < j ∧ j < 1000000) ∧ U ((List.range j.toNat).map fun (i : Nat) => D.int i) cs1) E := by
  unfold iRng
  simp only [wp_bd]
  constructor
  · refine fun h => wp_imp h (fun d cs1 w => ?_) fun _ _ h => h
    obtain ⟨j, e, w⟩ := asI_ok w
    by_cases c : (decide (-1000000 < j) && cRng j) = true
    · dsimp only at w
      rw [if_pos c] at w
      simp only [Bool.and_eq_true, cRng, decide_eq_true_eq] at c
      exact ⟨j, e, c, w⟩
    · dsimp only at w
      rw [if_neg c] at w
      exact w.elim
  · refine fun h => wp_imp h (fun d cs1 ⟨j, e, c, w⟩ => ?_) fun _ _ h => h
    rw [e]
    show wp (if (decide (-1000000 < j) && cRng j) = true then _ else _) _ _ _
    rw [if_pos (by simp only [Bool.and_eq_true, cRng, decide_eq_true_eq]; exact c)]
    exact w
/-! statements -/
theorem s_seq {f g : XS} : wpS (sSeq f g l cs) P ↔ wpS (f l cs) fun fl cs' => match fl with
    | .nx l' => wpS (g l' cs') P
    | r => P r cs' := wpS_seq
theorem s_nx : wpS (sNx l cs) P ↔ P (.nx l) cs := Iff.rfl
theorem s_set : wpS (sSet i fa l cs) P ↔ wp (fa l) cs (fun d cs' => P (.nx (l.set i (.val d))) cs') (fun x cs' => P (.ex x l) cs') := wpS_onE
theorem s_drop : wpS (sDrop fa l cs) P ↔ wp (fa l) cs (fun d cs' => P (.nx l) cs') (fun x cs' => P (.ex x l) cs') := wpS_onE
theorem s_ret : wpS (sRet fa l cs) P ↔ wp (fa l) cs (fun d cs' => P (.ret d) cs') (fun x cs' => P (.ex x l) cs') := wpS_onE
theorem s_retN : wpS (sRetN l cs) P ↔ P (.ret .non) cs := Iff.rfl
theorem wpS_ite {p : Prop} [Decidable p] {m m' : SO} : wpS (if p then m else m') P ↔ if p then wpS m P else wpS m' P := by split <;> exact Iff.rfl
theorem s_if : wpS (sIf t b c l cs) P ↔ wp (t l) cs (fun k cs' => if k = true then wpS (b l cs') P else wpS (c l cs') P) (fun x cs' => P (.ex x l) cs') := by
  unfold sIf
  rw [wpS_onE]
  simp only [wpS_ite]
theorem s_asg {g : XG} : wpS (sAsg fa g l cs) P ↔ wp (fa l) cs (fun d cs' => ∃ l', g d l cs' = some l' ∧ P (.nx l') cs') (fun x cs' => P (.ex x l) cs') := by
  unfold sAsg
  rw [wpS_onE]
  refine wp_iff (fun d cs' => ?_) fun _ _ => Iff.rfl
  cases g d l cs' with
  | none => exact ⟨fun h => h.elim, fun ⟨_, h, _⟩ => nomatch h⟩
  | some l' => exact ⟨fun h => ⟨l', rfl, h⟩, fun ⟨_, h, q⟩ => by cases h; exact q⟩
theorem s_par2 : wpS (sPar2 i j f l cs) P ↔ wp (f l) cs (fun ds cs' => match ds with | [a, b] => P (.nx ((l.set i (.val a)).set j (.val b))) cs' | _ => False) (fun x cs' => P (.ex x l) cs') := by
  unfold sPar2
  rw [wpS_onE]
  refine wp_iff (fun ds cs' => ?_) fun _ _ => Iff.rfl
  rcases ds with _ | ⟨a, _ | ⟨b, _ | ⟨c, r⟩⟩⟩ <;> exact Iff.rfl
theorem s_par3 : wpS (sPar3 i j k f l cs) P ↔ wp (f l) cs (fun ds cs' => match ds with | [a, b, c] => P (.nx (((l.set i (.val a)).set j (.val b)).set k (.val c))) cs' | _ => False) (fun x cs' => P (.ex x l) cs') := by
  unfold sPar3
  rw [wpS_onE]
  refine wp_iff (fun ds cs' => ?_) fun _ _ => Iff.rfl
  rcases ds with _ | ⟨a, _ | ⟨b, _ | ⟨c, _ | ⟨d, r⟩⟩⟩⟩ <;> exact Iff.rfl
theorem s_raise {x : Str} {ns : List Str} : wpS (sRaise x ns f l cs) P ↔ wp (f l) cs (fun ds cs' => ds.length = ns.length ∧ P (.ex (mkX x ns ds) l) cs') (fun x cs' => P (.ex x l) cs') := by
  unfold sRaise
  rw [wpS_onE]
  simp only [wpS_ite]
  have e : ∀ ds cs', (if ds.length = ns.length then wpS (SO.go (Fl.ex (mkX x ns ds) l) cs') P else wpS .no P) = (ds.length = ns.length ∧ P (.ex (mkX x ns ds) l) cs') := fun ds cs' => by
    split
    · rename_i h; exact propext ⟨fun z => ⟨h, z⟩, fun z => z.2⟩
    · rename_i h; exact propext ⟨fun z => z.elim, fun z => absurd z.1 h⟩
  simp only [e]
theorem s_ownC {g : XG} {vs : List Nat} : wpS (sOwnC i f g t fa vs l cs) P ↔ wp (f l) cs (fun ds cs1 => ds.length ≤ 1000000 ∧ wp (compL g t fa (wipeL l vs) ds) cs1 (fun ys cs2 => P (.nx (l.set i (.own (.lst ys)))) cs2) (fun x cs' => P (.ex x l) cs')) (fun x cs' => P (.ex x l) cs') := by
  unfold sOwnC lcM
  rw [wpS_onE]
  simp only [wp_bd, w_fit]
  exact Iff.rfl
theorem s_ownL : wpS (sOwnL i f l cs) P ↔ wp (f l) cs (fun ds cs1 => P (.nx (l.set i (.own (.lst ds)))) cs1) (fun x cs' => P (.ex x l) cs') := wpS_onE
theorem s_mutO {g : List D → List D → Option (List D)} : wpS (sMutO i g f l cs) P ↔ (match l[i]? with
    | some (.own (.lst xs)) => wp (f l) cs (fun ds cs1 => ∃ ys, g xs ds = some ys ∧ P (.nx (l.set i (.own (.lst ys)))) cs1) (fun x cs' => P (.ex x l) cs')
    | _ => False) := by
  unfold sMutO
  generalize l[i]? = o
  rcases o with _ | s
  · exact Iff.rfl
  · cases s with
    | own c =>
      cases c with
      | lst xs =>
        dsimp only
        rw [wpS_onE]
        refine wp_iff (fun ds cs' => ?_) fun _ _ => Iff.rfl
        cases g xs ds with
        | none => exact ⟨fun h => h.elim, fun ⟨_, h, _⟩ => nomatch h⟩
        | some l' => exact ⟨fun h => ⟨l', rfl, h⟩, fun ⟨_, h, q⟩ => by cases h; exact q⟩
      | _ => exact Iff.rfl
    | _ => exact Iff.rfl
theorem s_own {o : C} : wpS (sOwn i o l cs) P ↔ P (.nx (l.set i (.own o))) cs := Iff.rfl
theorem s_addO : wpS (sAddO i fa l cs) P ↔ (match l[i]? with
    | some (.own (.set ks)) => wp (fa l) cs (fun d cs1 => ∃ k, keyOf d = some k ∧ ks.length < 4000 ∧ P (.nx (l.set i (.own (.set (addK ks k))))) cs1) (fun x cs' => P (.ex x l) cs')
    | _ => False) := by
  unfold sAddO
  generalize l[i]? = o
  rcases o with _ | s
  · exact Iff.rfl
  · cases s with
    | own c =>
      cases c with
      | set ks =>
        dsimp only
        rw [wpS_onE]
        refine wp_iff (fun d cs' => ?_) fun _ _ => Iff.rfl
        cases keyOf d with
        | none => exact ⟨fun h => h.elim, fun ⟨_, h, _⟩ => nomatch h⟩
        | some k =>
          dsimp only
          rw [wpS_ite]
          split
          · rename_i hl; exact ⟨fun z => ⟨k, rfl, hl, z⟩, fun ⟨_, h, _, z⟩ => by cases h; exact z⟩
          · rename_i hl; exact ⟨fun z => z.elim, fun ⟨_, _, h, _⟩ => absurd h hl⟩
      | _ => exact Iff.rfl
    | _ => exact Iff.rfl
theorem s_fldO {T : Tb} {g : Str} : wpS (sFldO T i g fa l cs) P ↔ wp (fa l) cs (fun d cs' => match l[i]? with
    | some (.own (.ins c fs)) => (T.fld c g && decide (fs.length < 900)) = true ∧ P (.nx (l.set i (.own (.ins c (putD g d fs))))) cs'
    | _ => False) (fun x cs' => P (.ex x l) cs') := by
  unfold sFldO
  rw [wpS_onE]
  refine wp_iff (fun d cs' => ?_) fun _ _ => Iff.rfl
  generalize l[i]? = o
  rcases o with _ | s
  · exact Iff.rfl
  · cases s with
    | own c =>
      cases c with
      | ins c fs =>
        dsimp only
        rw [wpS_ite]
        split
        · rename_i h; exact ⟨fun z => ⟨h, z⟩, fun z => z.2⟩
        · rename_i h; exact ⟨fun z => z.elim, fun z => absurd z.1 h⟩
      | _ => exact Iff.rfl
    | _ => exact Iff.rfl
theorem s_for {g : XG} : wpS (sFor f g b l cs) P ↔ wp (f l) cs (fun ds cs' => wpS (forL (turn g b) ds l cs') P) (fun x cs' => P (.ex x l) cs') := wpS_onE
theorem s_setI : wpS (sSetI fv fo fi l cs) P ↔ wp (fv l) cs (fun v cs1 => wp (fo l) cs1 (fun o cs2 => wp (fi l) cs2 (fun y cs3 => wp (setC o y v) cs3 (fun _ cs4 => P (.nx l) cs4) (fun x cs' => P (.ex x l) cs')) (fun x cs' => P (.ex x l) cs')) (fun x cs' => P (.ex x l) cs')) (fun x cs' => P (.ex x l) cs') := by
  unfold sSetI
  simp only [wpS_onE]
  exact Iff.rfl
theorem w_run : wp (runB b l) cs Q E ↔ wpS (b l cs) fun fl cs' => match fl with
    | .ret d => Q d cs'
    | .nx _ => Q .non cs'
    | .ex x _ => E x cs'
    | _ => False := by
  unfold wp runB
  cases b l cs with
  | no => exact Iff.rfl
  | go fl cs' => cases fl <;> exact Iff.rfl
theorem w_ini : wp (runI b l) cs Q E ↔ wpS (b l cs) fun fl cs' => match fl with
    | .nx l' => (match (l'[0]? : Option Sl) with
      | some (.own (.ins c fs)) => Q (.ins c fs) cs'
      | some (.me d) => Q d cs'
      | _ => False)
    | .ex x _ => E x cs'
    | _ => False := by
  unfold wp runI
  cases b l cs with
  | no => exact Iff.rfl
  | go fl cs' =>
    cases fl with
    | nx l' =>
      dsimp only [wpS]
      cases h : (l'[0]? : Option Sl) with
      | none => exact Iff.rfl
      | some s =>
        cases s with
        | own c => cases c <;> exact Iff.rfl
        | _ => exact Iff.rfl
    | _ => exact Iff.rfl
/-- a loop by an invariant -/
theorem for_inv {body : D → Loc → Cells → SO} {ds : List D} (I : Nat → Loc → Cells → Prop) (h0 : I 0 l cs) (step : ∀ (i : Nat) (d : D) (l : Loc) (cs : Cells), ds[i]? = some d → I i l cs → wpS (body d l cs) fun fl cs' => match fl with
    | .nx l' => I (i + 1) l' cs'
    | .ct l' => I (i + 1) l' cs'
    | .bk l' => P (.nx l') cs'
    | r => P r cs') (hd : ∀ (l : Loc) (cs : Cells), I ds.length l cs → P (.nx l) cs) : wpS (forL body ds l cs) P := by
  induction ds generalizing I l cs with
  | nil => exact hd l cs h0
  | cons d ds ih =>
    have s := step 0 d l cs rfl h0
    unfold forL
    cases q : body d l cs with
    | no => rw [q] at s; exact s.elim
    | go fl cs' =>
      rw [q] at s
      cases fl with
      | nx l' => exact ih (I := fun i => I (i + 1)) s (fun i d l cs h => step (i + 1) d l cs (by simpa using h)) hd
      | ct l' => exact ih (I := fun i => I (i + 1)) s (fun i d l cs h => step (i + 1) d l cs (by simpa using h)) hd
      | bk l' => exact s
      | ret d => exact s
      | ex x l' => exact s
theorem s_turn {g : XG} {d : D} : wpS (turn g b d l cs) P ↔ ∃ l', g d l cs = some l' ∧ wpS (b l' cs) P := by
  unfold turn
  cases g d l cs with
  | none => exact ⟨fun h => h.elim, fun ⟨_, h, _⟩ => nomatch h⟩
  | some l' => exact ⟨fun h => ⟨l', rfl, h⟩, fun ⟨_, h, q⟩ => by cases h; exact q⟩
/-- a comprehension by an invariant -/
theorem comp_inv {g : XG} {ds : List D} (I : Nat → List D → Cells → Prop) (h0 : I 0 [] cs) (step : ∀ (i : Nat) (d : D) (acc : List D) (cs : Cells), ds[i]? = some d → I i acc cs → ∃ l1, g d l cs = some l1 ∧ wp (t l1) cs (fun k cs1 => if k = true then wp (fa l1) cs1 (fun y cs2 => I (i + 1) (acc ++ [y]) cs2) (fun _ _ => False) else I (i + 1) acc cs1) (fun _ _ => False))
    (hd : ∀ (acc : List D) (cs : Cells), I ds.length acc cs → U acc cs) : wp (compL g t fa l ds) cs U E := by
  have gen : ∀ (ds : List D) (I : Nat → List D → Cells → Prop) (acc : List D) (cs : Cells) (U : List D → Cells → Prop), I 0 acc cs → (∀ (i : Nat) (d : D) (acc : List D) (cs : Cells), ds[i]? = some d → I i acc cs → ∃ l1, g d l cs = some l1 ∧ wp (t l1) cs (fun k cs1 => if k = true then wp (fa l1) cs1 (fun y cs2 => I (i + 1) (acc ++ [y]) cs2) (fun _ _ => False) else I (i + 1) acc cs1) (fun _ _ => False)) →
      (∀ (acc' : List D) (cs : Cells), I ds.length (acc ++ acc') cs → U acc' cs) → wp (compL g t fa l ds) cs U E := by
    intro ds
    induction ds with
    | nil => exact fun I acc cs U h0 _ hd => hd [] cs (by simpa using h0)
    | cons d ds ih =>
      intro I acc cs U h0 step hd
      obtain ⟨l1, hl, w⟩ := step 0 d acc cs rfl h0
      have e : compL g t fa l (d :: ds) cs = bd (nox (t l1)) (fun k => if k = true then bd (nox (fa l1)) fun y => bd (compL g t fa l ds) fun ys => rt (y :: ys) else compL g t fa l ds) cs := by
        show (match g d l cs with | some l1 => _ | none => Out.no) = _
        rw [hl]
      refine wp_congr e.symm ?_
      rw [wp_bd, w_nox]
      refine wp_imp w (fun k cs1 w1 => ?_) fun _ _ h => h.elim
      cases k with
      | true =>
        rw [if_pos rfl] at w1 ⊢
        rw [wp_bd, w_nox]
        refine wp_imp w1 (fun y cs2 w2 => ?_) fun _ _ h => h.elim
        rw [wp_bd]
        refine ih (fun i => I (i + 1)) (acc ++ [y]) cs2 _ w2 (fun i d acc cs h => step (i + 1) d acc cs (by simpa using h)) fun acc' cs' h => ?_
        refine hd (y :: acc') cs' ?_
        simpa using h
      | false =>
        rw [if_neg Bool.false_ne_true] at w1 ⊢
        exact ih (fun i => I (i + 1)) acc cs1 U w1 (fun i d acc cs h => step (i + 1) d acc cs (by simpa using h)) fun acc' cs' h => hd acc' cs' (by simpa using h)
  exact gen ds I [] cs U h0 step fun acc' cs h => hd acc' cs (by simpa using h)
end
/-- an equality from the weakest precondition -/
theorem of_wp {α : Type} {m : EM α} {cs : Cells} {Q : α → Cells → Prop} (h : wp m cs Q fun _ _ => False) : ∃ a cs', m cs = .ok a cs' ∧ Q a cs' := by
  unfold wp at h
  cases e : m cs with
  | ok a cs' => rw [e] at h; exact ⟨a, cs', rfl, h⟩
  | exc x cs' => rw [e] at h; exact h.elim
  | no => rw [e] at h; exact h.elim
end F

/-! what the value words do at known values -/
namespace F
open PySem L2
section
variable {cs : Cells} {Q : D → Prop} {i j : Int} {a b : Str} {xs ys : List D} {d e : D} {n : Nat}
theorem ex_some {α : Type} {x : α} {Q : α → Prop} : (∃ r, some x = some r ∧ Q r) ↔ Q x := ⟨fun ⟨_, h, q⟩ => by cases h; exact q, fun q => ⟨_, rfl, q⟩⟩
theorem ex_if {α : Type} {p : Prop} [Decidable p] {x : α} {Q : α → Prop} : (∃ r, (if p then some x else none) = some r ∧ Q r) ↔ p ∧ Q x := by
  split
  · rename_i h; exact ex_some.trans ⟨fun q => ⟨h, q⟩, fun q => q.2⟩
  · rename_i h; exact ⟨fun ⟨_, h, _⟩ => (nomatch h), fun q => absurd q.1 h⟩
theorem ex_none {α : Type} {Q : α → Prop} : (∃ r, (none : Option α) = some r ∧ Q r) ↔ False := by
  constructor
  · rintro ⟨_, h, _⟩
    cases h
  · intro h
    exact False.elim h
theorem ex_bl {k : Bool} {Q : Bool → Prop} : (∃ r, D.bl k = .bl r ∧ Q r) ↔ Q k := ⟨fun ⟨_, h, q⟩ => by cases h; exact q, fun q => ⟨_, rfl, q⟩⟩
theorem ex_int {Q : Int → Prop} : (∃ r, D.int i = .int r ∧ Q r) ↔ Q i := ⟨fun ⟨_, h, q⟩ => by cases h; exact q, fun q => ⟨_, rfl, q⟩⟩
theorem ex_str {Q : Str → Prop} : (∃ r, D.str a = .str r ∧ Q r) ↔ Q a := ⟨fun ⟨_, h, q⟩ => by cases h; exact q, fun q => ⟨_, rfl, q⟩⟩
theorem ex_map {α β : Type} {o : Option α} {f : α → β} {Q : β → Prop} : (∃ r, o.map f = some r ∧ Q r) ↔ ∃ r, o = some r ∧ Q (f r) := by
  cases o with
  | none => exact ⟨fun ⟨_, h, _⟩ => (nomatch h), fun ⟨_, h, _⟩ => nomatch h⟩
  | some x => exact ⟨fun ⟨_, h, q⟩ => ⟨x, rfl, by cases h; exact q⟩, fun ⟨_, h, q⟩ => ⟨_, rfl, by cases h; exact q⟩⟩
theorem x_addI : (∃ r, dAdd cs (.int i) (.int j) = some r ∧ Q r) ↔ Q (.int (i + j)) := ex_some
theorem x_addS : (∃ r, dAdd cs (.str a) (.str b) = some r ∧ Q r) ↔ fitB (a.length + b.length) = true ∧ Q (.str (a ++ b)) := ex_if
theorem x_addT : (∃ r, dAdd cs (.tup xs) (.tup ys) = some r ∧ Q r) ↔ fitB (xs.length + ys.length) = true ∧ Q (.tup (xs ++ ys)) := ex_if
theorem x_addL : (∃ r, dAdd cs (.lst xs) (.lst ys) = some r ∧ Q r) ↔ fitB (xs.length + ys.length) = true ∧ Q (.lst (xs ++ ys)) := ex_if
theorem x_sub : (∃ r, dSub cs (.int i) (.int j) = some r ∧ Q r) ↔ Q (.int (i - j)) := ex_some
theorem x_mul : (∃ r, dMul cs (.int i) (.int j) = some r ∧ Q r) ↔ cMul i j = true ∧ Q (.int (i * j)) := ex_if
theorem x_mod : (∃ r, dMod cs (.int i) (.int j) = some r ∧ Q r) ↔ cMod i j = true ∧ Q (.int (i % j)) := ex_if
theorem x_div : (∃ r, dDiv cs (.int i) (.int j) = some r ∧ Q r) ↔ cDiv i j = true ∧ Q (.int (i / j)) := ex_if
theorem x_pow : (∃ r, dPow cs (.int i) (.int j) = some r ∧ Q r) ↔ cPow i j = true ∧ Q (.int (i ^ j.toNat)) := ex_if
theorem x_lt : (∃ r, dLt cs (.int i) (.int j) = some r ∧ Q r) ↔ Q (.bl (decide (i < j))) := ex_some
theorem x_le : (∃ r, dLe cs (.int i) (.int j) = some r ∧ Q r) ↔ Q (.bl (decide (i ≤ j))) := ex_some
theorem x_gt : (∃ r, dGt cs (.int i) (.int j) = some r ∧ Q r) ↔ Q (.bl (decide (j < i))) := ex_some
theorem x_ge : (∃ r, dGe cs (.int i) (.int j) = some r ∧ Q r) ↔ Q (.bl (decide (j ≤ i))) := ex_some
theorem x_neg : (∃ r, dNeg cs (.int i) = some r ∧ Q r) ↔ Q (.int (-i)) := ex_some
theorem x_int : (∃ r, dInt cs [.int i] = some r ∧ Q r) ↔ Q (.int i) := ex_some
theorem x_abs : (∃ r, dAbs cs [.int i] = some r ∧ Q r) ↔ Q (.int (if i < 0 then -i else i)) := ex_some
theorem x_min : (∃ r, dMin cs [.int i, .int j] = some r ∧ Q r) ↔ Q (.int (if j < i then j else i)) := ex_some
theorem x_max : (∃ r, dMax cs [.int i, .int j] = some r ∧ Q r) ↔ Q (.int (if j > i then j else i)) := ex_some
theorem x_lenS : (∃ r, dLen cs [.str a] = some r ∧ Q r) ↔ Q (.int a.length) := ex_some
theorem x_lenL : (∃ r, dLen cs [.lst xs] = some r ∧ Q r) ↔ Q (.int xs.length) := ex_some
theorem x_lenW : (∃ r, dLen cs [.wls xs] = some r ∧ Q r) ↔ Q (.int xs.length) := ex_some
theorem x_lenT : (∃ r, dLen cs [.tup xs] = some r ∧ Q r) ↔ Q (.int xs.length) := ex_some
theorem x_eqS : (∃ r, dEq cs (.str a) (.str b) = some r ∧ Q r) ↔ Q (.bl (decide (a = b))) := ex_some
theorem x_neS : (∃ r, dNe cs (.str a) (.str b) = some r ∧ Q r) ↔ Q (.bl (!decide (a = b))) := ex_some
theorem x_eqI : (∃ r, dEq cs (.int i) (.int j) = some r ∧ Q r) ↔ Q (.bl (decide (i = j))) := ex_some
theorem x_neI : (∃ r, dNe cs (.int i) (.int j) = some r ∧ Q r) ↔ Q (.bl (!decide (i = j))) := ex_some
theorem x_isN : (∃ r, dIsN cs d .non = some r ∧ Q r) ↔ Q (.bl (isNon d)) := ex_some
theorem x_notN : (∃ r, dNotN cs d .non = some r ∧ Q r) ↔ Q (.bl (!isNon d)) := ex_some
theorem x_ixL : (∃ r, dIx cs (.lst xs) (.int i) = some r ∧ Q r) ↔ ∃ r, atI xs i = some r ∧ Q r := Iff.rfl
theorem x_ixW : (∃ r, dIx cs (.wls xs) (.int i) = some r ∧ Q r) ↔ ∃ r, atI xs i = some r ∧ Q r := Iff.rfl
theorem x_ixT : (∃ r, dIx cs (.tup xs) (.int i) = some r ∧ Q r) ↔ ∃ r, atI xs i = some r ∧ Q r := Iff.rfl
theorem x_ixS : (∃ r, dIx cs (.str a) (.int i) = some r ∧ Q r) ↔ ∃ c, atI a.cps.toList i = some c ∧ Q (.str ⟨#[c]⟩) := ex_map
theorem x_tupL : (∃ r, dTuple cs [.lst xs] = some r ∧ Q r) ↔ Q (.tup xs) := ex_some
theorem x_tupT : (∃ r, dTuple cs [.tup xs] = some r ∧ Q r) ↔ Q (.tup xs) := ex_some
theorem x_frzL {Q : List D → Prop} : (∃ r, frzL (.lst xs) = some r ∧ Q r) ↔ Q xs := ex_some
theorem x_frzT {Q : List D → Prop} : (∃ r, frzL (.tup xs) = some r ∧ Q r) ↔ Q xs := ex_some
theorem x_frzW {Q : List D → Prop} : (∃ r, frzL (.wls xs) = some r ∧ Q r) ↔ Q xs := ex_some
theorem x_enuL {Q : List D → Prop} : (∃ r, enuD (.lst xs) = some r ∧ Q r) ↔ Q (numbered 0 xs) := ex_some
theorem x_seqL {Q : List D → Prop} : (∃ r, seqOf cs (.lst xs) = some r ∧ Q r) ↔ Q xs := ex_some
theorem x_seqT {Q : List D → Prop} : (∃ r, seqOf cs (.tup xs) = some r ∧ Q r) ↔ Q xs := ex_some
theorem x_gN {l : Loc} {k : Nat} {Q : Loc → Prop} : (∃ r, gN k d l cs = some r ∧ Q r) ↔ Q (l.set k (.val d)) := ex_some
theorem x_g2 {l : Loc} {k m : Nat} {Q : Loc → Prop} : (∃ r, gT 2 (gsCons (gN k) (gsCons (gN m) gsNil)) (.tup [d, e]) l cs = some r ∧ Q r) ↔ Q ((l.set k (.val d)).set m (.val e)) := ex_some
theorem atI_nat {α : Type} {xs : List α} {k : Nat} {x : α} (h : xs[k]? = some x) : atI xs (k : Int) = some x := E.atI_of (Int.natCast_nonneg k) (by simpa using h)
end
end F

/-! the helpers that many laws share, as words -/
namespace F
open PySem L2
def h_law_bagged_2 : XS :=
 (sRet (xLstC (aCons (xVar 3) (aCons (x2 dAdd (x2 dAdd (x2 dMul (x2 dMod (xN dInt (aCons (xVar 2) aNil)) (xC (.int 2305843009213693951))) (xC (.int 5))) (x2 dMul (xC (.int 15787)) (xVar 1))) (xC (.int 3301))) (aCons (xC (.int 0)) aNil)))))
def h_law_bagged_1 : XS :=
 (sSeq (sSet 3 (xIf (bV (x2 dGe (xN dAbs (aCons (xVar 2) aNil)) (x2 dPow (xC (.int 10)) (xC (.int 18))))) (xN dAbs (aCons (xVar 2) aNil)) (xC (.int 0))))
 h_law_bagged_2)
def h_law_bagged : XS :=
 (sSeq (sSet 2 (xIf (bV (x2 dLt (xVar 1) (xN dLen (aCons (xVar 0) aNil)))) (x2 dIx (xVar 0) (xVar 1)) (xC (.int 0))))
 h_law_bagged_1)
def H_law_bagged : List D → List D → EM D := fun ds es => match (arrP 2 0 []) ds es with
  | some bs => fnB 4 h_law_bagged bs
  | none => no
def h_law_draw_4 : XS :=
 (sRet (x2 dMod (xN dInt (aCons (x2 dDiv (xVar 3) (xC (.int 1024))) aNil)) (xVar 1)))
def h_law_draw_3 : XS :=
 (sSeq (sSet 3 (x2 dMod (xN dInt (aCons (x2 dPow (x2 dAdd (xVar 3) (x2 dMul (xC (.int 32452867)) (x2 dIx (xVar 0) (xC (.int 2))))) (xC (.int 2))) aNil)) (xC (.int 2305843009213693951))))
 h_law_draw_4)
def h_law_draw_2 : XS :=
 (sSeq (sSet 3 (x2 dMod (xN dInt (aCons (x2 dPow (x2 dAdd (x2 dIx (xVar 0) (xC (.int 1))) (x2 dMul (xC (.int 1000003)) (x2 dIx (xVar 0) (xC (.int 2))))) (xC (.int 3))) aNil)) (xC (.int 2305843009213693921))))
 h_law_draw_3)
def h_law_draw_1 : XS :=
 (sSeq (sSetI (x2 dAdd (x2 dIx (xVar 0) (xC (.int 2))) (xC (.int 1))) (xVar 0) (xC (.int 2)))
 h_law_draw_2)
def h_law_draw : XS :=
 (sSeq (sIf (bV (x2 dGt (x2 dIx (xVar 0) (xC (.int 0))) (xC (.int 0)))) (sSeq (sSet 2 (x2 dMod (xN dInt (aCons (x2 dIx (xVar 0) (xC (.int 0))) aNil)) (xVar 1)))
 (sSeq (sSetI (x2 dDiv (x2 dIx (xVar 0) (xC (.int 0))) (xVar 1)) (xVar 0) (xC (.int 0)))
 (sRet (xVar 2)))) sNx)
 h_law_draw_1)
def H_law_draw : List D → List D → EM D := fun ds es => match (arrP 2 0 []) ds es with
  | some bs => fnB 4 h_law_draw bs
  | none => no
def h_law_of : XS :=
 (sRet (x2 dIx (xVar 1) (xCall (kChk ([] : List Str).length H_law_draw) (aCons (xVar 0) (aCons (xN dLen (aCons (xVar 1) aNil)) aNil)) aNil)))
def H_law_of : List D → List D → EM D := fun ds es => match (arrP 2 0 []) ds es with
  | some bs => fnB 2 h_law_of bs
  | none => no
def h_law_some_words_5 : XS :=
 (sRet (xLc (iSeq (xVar 7)) (gN 9) bYes (xIf (bV (x2 dNe (xVar 9) (xC (.str "up")))) (xVar 9) (xC (.str "upp"))) [9]))
def h_law_some_words_4 : XS :=
 (sSeq (sSet 7 (xLc (iRng (xVar 1)) (gN 8) bYes (x2 dAdd (x2 dAdd (xVar 3) (x2 dIx (xVar 2) (x2 dMod (xN dInt (aCons (x2 dAdd (xVar 5) (x2 dMul (xVar 8) (xVar 6))) aNil)) (xC (.int 26))))) (xVar 4)) [8]))
 h_law_some_words_5)
def h_law_some_words_3 : XS :=
 (sSeq (sAsg (xTup (aCons (xCall (kChk ([] : List Str).length H_law_draw) (aCons (xVar 0) (aCons (xC (.int 26)) aNil)) aNil) (aCons (x2 dAdd (xC (.int 1)) (x2 dMul (xC (.int 2)) (xCall (kChk ([] : List Str).length H_law_draw) (aCons (xVar 0) (aCons (xC (.int 6)) aNil)) aNil))) aNil))) (gT 2 (gsCons (gN 5) (gsCons (gN 6) gsNil))))
 h_law_some_words_4)
def h_law_some_words_2 : XS :=
 (sSeq (sSet 4 (xJoin (xC (.str "")) (xLc (iRng (xCall (kChk ([] : List Str).length H_law_draw) (aCons (xVar 0) (aCons (xC (.int 4)) aNil)) aNil)) (gN 10) bYes (x2 dIx (xVar 2) (xCall (kChk ([] : List Str).length H_law_draw) (aCons (xVar 0) (aCons (xC (.int 26)) aNil)) aNil)) [10])))
 h_law_some_words_3)
def h_law_some_words_1 : XS :=
 (sSeq (sSet 3 (xJoin (xC (.str "")) (xLc (iRng (xCall (kChk ([] : List Str).length H_law_draw) (aCons (xVar 0) (aCons (xC (.int 4)) aNil)) aNil)) (gN 10) bYes (x2 dIx (xVar 2) (xCall (kChk ([] : List Str).length H_law_draw) (aCons (xVar 0) (aCons (xC (.int 26)) aNil)) aNil)) [10])))
 h_law_some_words_2)
def h_law_some_words : XS :=
 (sSeq (sSet 2 (xC (.str "abcdefghijklmnopqrstuvwxyz")))
 h_law_some_words_1)
def H_law_some_words : List D → List D → EM D := fun ds es => match (arrP 2 0 []) ds es with
  | some bs => fnB 11 h_law_some_words bs
  | none => no
def h_law_odd_one_2 : XS :=
 (sRet (x2 dIx (xVar 2) (x2 dMod (xN dInt (aCons (x2 dAdd (xCall (kChk ([] : List Str).length H_law_draw) (aCons (xVar 0) (aCons (xN dLen (aCons (xVar 2) aNil)) aNil)) aNil) (xVar 1)) aNil)) (xN dLen (aCons (xVar 2) aNil)))))
def h_law_odd_one_1 : XS :=
 (sSeq (sSet 2 (x2 dAdd (xVar 2) (xLst (aCons (xTup (aCons (xC (.str "a")) aNil)) (aCons (xLst (aCons (xC (.str "a")) aNil)) (aCons (xLst aNil) (aCons (xTup aNil) (aCons (xLst (aCons (xLst (aCons (xC (.str "a")) aNil)) (aCons (xC .non) aNil))) (aCons (xC (.str "Ab")) (aCons (xC (.str "_")) (aCons (xC (.str "a.b")) (aCons (x2 dPow (xC (.int 10)) (xC (.int 19))) aNil))))))))))))
 h_law_odd_one_2)
def h_law_odd_one : XS :=
 (sSeq (sSet 2 (xLst (aCons (xC .non) (aCons (xC (.bl true)) (aCons (xC (.bl false)) (aCons (xC (.int 0)) (aCons (xC (.int 1)) (aCons (x1 dNeg (xC (.int 7))) (aCons (xC (.str "")) (aCons (xC (.str "A")) (aCons (xC (.str "a b")) (aCons (xC (.str "a1")) (aCons (xC (.str "abcdefghi")) (aCons (xC (.str " a")) (aCons (xC (.str "a\n")) (aCons (xC (.str "(a)")) (aCons (xC (.str "aa-b")) aNil)))))))))))))))))
 h_law_odd_one_1)
def H_law_odd_one : List D → List D → EM D := fun ds es => match (arrP 2 0 []) ds es with
  | some bs => fnB 3 h_law_odd_one bs
  | none => no
def h_law_is_name_1 (tb : Tb) : XS :=
 (sRet (xN dAll (aCons (xLc (iStr (xVar 0)) (gN 1) bYes (x2 dIn (xVar 1) (xC (.str "abcdefghijklmnopqrstuvwxyz"))) [1]) aNil)))
def h_law_is_name (tb : Tb) : XS :=
 (sSeq (sIf (bOr (bNot (bV (xN (dIsi tb) (aCons (xVar 0) (aCons (xC (.ty "str")) aNil))))) (bOr (bV (x2 dLt (xN dLen (aCons (xVar 0) aNil)) (xC (.int 1)))) (bV (x2 dGt (xN dLen (aCons (xVar 0) aNil)) (xC (.int 8)))))) (sRet (xC (.bl false))) sNx)
 (h_law_is_name_1 tb))
def H_law_is_name (tb : Tb) : List D → List D → EM D := fun ds es => match (arrP 1 0 []) ds es with
  | some bs => fnB 2 (h_law_is_name tb) bs
  | none => no
def h_is_name_2 (tb : Tb) : XS :=
 (sRet (xC (.bl true)))
def h_is_name_1 (tb : Tb) : XS :=
 (sSeq (sFor (iStr (xVar 0)) (gN 1) (sIf (bV (x2 dNotIn (xVar 1) (xC (.str "abcdefghijklmnopqrstuvwxyz")))) (sRet (xC (.bl false))) sNx))
 (h_is_name_2 tb))
def h_is_name (tb : Tb) : XS :=
 (sSeq (sIf (bOr (bNot (bV (xN (dIsi tb) (aCons (xVar 0) (aCons (xC (.ty "str")) aNil))))) (bNot (bV (xChain dLe dLe (xC (.int 1)) (xN dLen (aCons (xVar 0) aNil)) (xC (.int 8)))))) (sRet (xC (.bl false))) sNx)
 (h_is_name_1 tb))
def H_is_name (tb : Tb) : List D → List D → EM D := fun ds es => match (arrP 1 0 []) ds es with
  | some bs => fnB 2 (h_is_name tb) bs
  | none => no
def h_is_part (tb : Tb) : XS :=
 (sRet (xAnd (xCall (kChk ([] : List Str).length (H_is_name tb)) (aCons (xVar 0) aNil) aNil) (x2 dNe (xVar 0) (xC (.str "up")))))
def H_is_part (tb : Tb) : List D → List D → EM D := fun ds es => match (arrP 1 0 []) ds es with
  | some bs => fnB 1 (h_is_part tb) bs
  | none => no
def h_look_name_1 (tb : Tb) : XS :=
 (sRet (xVar 0))
def h_look_name (tb : Tb) : XS :=
 (sSeq (sIf (bNot (bV (xCall (kChk ([] : List Str).length (H_is_name tb)) (aCons (xVar 0) aNil) aNil))) (sRaise "BadName" ["name"] (aCons (xVar 0) aNil)) sNx)
 (h_look_name_1 tb))
def H_look_name (tb : Tb) : List D → List D → EM D := fun ds es => match (arrP 1 0 []) ds es with
  | some bs => fnB 1 (h_look_name tb) bs
  | none => no
def h_look_parts_1 (tb : Tb) : XS :=
 (sRet (xN dTuple (aCons (xVar 0) aNil)))
def h_look_parts (tb : Tb) : XS :=
 (sSeq (sFor (iSeq (xVar 0)) (gN 1) (sIf (bNot (bV (xCall (kChk ([] : List Str).length (H_is_part tb)) (aCons (xVar 1) aNil) aNil))) (sRaise "BadName" ["name"] (aCons (xVar 1) aNil)) sNx))
 (h_look_parts_1 tb))
def H_look_parts (tb : Tb) : List D → List D → EM D := fun ds es => match (arrP 1 0 []) ds es with
  | some bs => fnB 2 (h_look_parts tb) bs
  | none => no
def h_look_once_1 : XS :=
 (sFor (iSeq (xVar 0)) (gN 2) (sSeq (sIf (bInO false 1 (xVar 2)) (sRaise "Twice" ["name"] (aCons (xVar 2) aNil)) sNx)
 (sAddO 1 (xVar 2))))
def h_look_once : XS :=
 (sSeq (sOwn 1 (.set []))
 h_look_once_1)
def H_look_once : List D → List D → EM D := fun ds es => match (arrP 1 0 []) ds es with
  | some bs => fnB 3 h_look_once bs
  | none => no
end F

/-! the shared helpers, what they answer -/
namespace F
open PySem L2
theorem w_yes {l : Loc} {cs : Cells} {R : Bool → Cells → Prop} {E : Exn → Cells → Prop} : wp (bYes l) cs R E ↔ R true cs := Iff.rfl
theorem ixN_nat {n k : Nat} (h : k < n) : ixN n (k : Int) = some k := by
  unfold ixN
  split <;> first | omega | skip
  split <;> first | omega | skip
  all_goals simp
theorem wp_setC {cs : Cells} {n k : Nat} {v : D} {xs : List D} {Z : Unit → Cells → Prop} {E : Exn → Cells → Prop} (h : celL cs n = some xs) (hk : k < xs.length) : wp (setC (.cel n) (.int (k : Int)) v) cs Z E ↔ Z () (cs.set n (.lst (xs.set k v))) := by
  unfold wp setC
  dsimp only
  rw [h]
  dsimp only
  rw [ixN_nat hk]
theorem celL_of {cs : Cells} {n : Nat} {xs : List D} (h : cs[n]? = some (.lst xs)) : celL cs n = some xs := by
  unfold celL
  rw [h]
theorem x_ixC {cs : Cells} {n k : Nat} {xs : List D} {d : D} {Q : D → Prop} (h : celL cs n = some xs) (hk : xs[k]? = some d) : (∃ r, dIx cs (.cel n) (.int (k : Int)) = some r ∧ Q r) ↔ Q d := by
  have e : dIx cs (.cel n) (.int (k : Int)) = some d := by
    show (match celL cs n with | some xs => atI xs (k : Int) | none => none) = some d
    rw [h]
    exact atI_nat hk
  rw [e]
  exact ex_some
local macro_rules | `(tactic| walk_at "w") => `(tactic| simp only [w_run, w_var, w_c, w_1, w_2, w_N, w_bV, w_bNot, w_bOr, w_bAnd, w_xOr, w_xAnd, w_xNot, w_xIf, w_aNil, w_aCons, w_aStar, w_tup, w_lst, w_tupS, w_lstS, w_lstC, w_listC, w_oNone, w_oSome, w_sl, w_join, w_call, w_chk, w_at, w_lenO, w_chain, w_tru, w_inO, w_xf, w_isX, w_eq, w_lc, w_iSeq, w_iEnu, w_iStr, w_iRng, w_yes,
  s_seq, s_nx, s_set, s_drop, s_ret, s_retN, s_if, s_asg, s_par2, s_par3, s_raise, s_ownC, s_ownL, s_mutO, s_own, s_addO, s_fldO, s_for, s_setI, s_turn,
  ex_some, ex_if, ex_none, ex_bl, ex_int, ex_str, x_addI, x_addS, x_addT, x_addL, x_sub, x_mul, x_mod, x_div, x_pow, x_lt, x_le, x_gt, x_ge, x_neg, x_int, x_abs, x_min, x_max, x_lenS, x_lenL, x_lenW, x_lenT, x_eqS, x_neS, x_eqI, x_neI, x_isN, x_notN, x_ixL, x_ixW, x_ixT, x_ixS, x_tupL, x_tupT, x_frzL, x_frzT, x_frzW, x_enuL, x_seqL, x_seqT, x_gN, x_g2,
  List.getElem?_cons_zero, List.getElem?_cons_succ, List.set_cons_zero, List.set_cons_succ, List.length_nil, wipeL, decide_eq_true_eq, Bool.not_eq_true', decide_eq_false_iff_not, true_and, and_true])
/-! bags -/
structure BagOk (n : Nat) (d m c : Int) : Prop where
  d0 : 0 ≤ d
  m0 : 0 ≤ m
  m1 : m ≤ 17000000000000000000
  c0 : 0 ≤ c
  c1 : c + n ≤ 10000000000
def Bag (cs : Cells) (b n : Nat) : Prop := ∃ d m c, cs[b]? = some (.lst [.int d, .int m, .int c]) ∧ BagOk n d m c
theorem Bag.mono {cs : Cells} {b n m : Nat} (h : Bag cs b n) (le : m ≤ n) : Bag cs b m := by
  obtain ⟨d, k, c, e, a, b, b2, c0, c1⟩ := h
  exact ⟨d, k, c, e, a, b, b2, c0, by omega⟩
def Kp (b : Nat) (cs cs' : Cells) : Prop := cs'.length = cs.length ∧ ∀ k, k ≠ b → cs'[k]? = cs[k]?
theorem Kp.refl {b : Nat} {cs : Cells} : Kp b cs cs := ⟨rfl, fun _ _ => rfl⟩
theorem Kp.trans {b : Nat} {cs cs1 cs2 : Cells} (h : Kp b cs cs1) (k : Kp b cs1 cs2) : Kp b cs cs2 := ⟨k.1.trans h.1, fun j n => (k.2 j n).trans (h.2 j n)⟩
theorem Kp.set {b : Nat} {cs : Cells} {o : C} : Kp b cs (cs.set b o) := ⟨List.length_set, fun k n => List.getElem?_set_ne (Ne.symm n)⟩
theorem log2_lt {m : Int} (h : 0 < m) (h1 : m ≤ 1000000) : m.natAbs.log2 < 9000 := by
  have : m.natAbs.log2 ≤ m.natAbs := Nat.log2_le_self _
  have h2 : m.natAbs < 2 ^ 9000 := Nat.lt_of_le_of_lt (show m.natAbs ≤ 2 ^ 20 by omega) (Nat.pow_lt_pow_right (by decide) (by decide))
  by_cases z : m.natAbs = 0
  · rw [z]; decide
  · exact (Nat.log2_lt z).mpr h2
theorem draw_wp {cs : Cells} {b n : Nat} {m : Int} {Q : D → Cells → Prop} {E : Exn → Cells → Prop} (hb : Bag cs b (n + 1)) (h0 : 0 < m) (h1 : m ≤ 1000000) (k : ∀ r cs', 0 ≤ r → r < m → Bag cs' b n → Kp b cs cs' → Q (.int r) cs') : wp (H_law_draw [.cel b, .int m] []) cs Q E := by
  obtain ⟨d, mm, c, e, bo⟩ := hb
  have hl : b < cs.length := (List.getElem?_eq_some_iff.mp e).1
  have e1 := celL_of e
  obtain ⟨d0, m0, m1, c0, c1⟩ := bo
  show wp (runB h_law_draw [.val (.cel b), .val (.int m), .emp, .emp]) cs Q E
  have i0 : ∀ {Q : D → Prop}, (∃ r, dIx cs (.cel b) (.int 0) = some r ∧ Q r) ↔ Q (.int d) := x_ixC (k := 0) e1 rfl
  have i1 : ∀ {Q : D → Prop}, (∃ r, dIx cs (.cel b) (.int 1) = some r ∧ Q r) ↔ Q (.int mm) := x_ixC (k := 1) e1 rfl
  have i2 : ∀ {Q : D → Prop}, (∃ r, dIx cs (.cel b) (.int 2) = some r ∧ Q r) ↔ Q (.int c) := x_ixC (k := 2) e1 rfl
  have sm : cMod (0 : Int) m = true := by unfold cMod; simpa using h0
  unfold h_law_draw
  walk_at "w"
  simp only [i0]
  walk_at "w"
  by_cases p : 0 < d
  · simp only [p, decide_true, if_true]
    try walk_at "w"
    try simp only [i0]
    try walk_at "w"
    refine ⟨by unfold cMod; simpa using h0, by unfold cDiv; simp only [Bool.and_eq_true, decide_eq_true_eq]; exact ⟨h0, log2_lt h0 h1⟩, ?_⟩
    rw [show (0 : Int) = ((0 : Nat) : Int) from rfl, wp_setC e1 (by simp)]
    refine k _ _ (Int.emod_nonneg _ (by omega)) (Int.emod_lt_of_pos _ h0) ⟨d / m, mm, c, ?_, ⟨?_, m0, m1, c0, by omega⟩⟩ Kp.set
    · rw [List.getElem?_set_self hl]; rfl
    · exact Int.ediv_nonneg d0 (by omega)
  · simp only [p, decide_false, Bool.false_eq_true, if_false]
    unfold h_law_draw_1
    try walk_at "w"
    try simp only [i2]
    try walk_at "w"
    rw [show (2 : Int) = ((2 : Nat) : Int) from rfl, wp_setC e1 (by simp)]
    have e2 : celL (cs.set b (.lst [.int d, .int mm, .int (c + 1)])) b = some [.int d, .int mm, .int (c + 1)] := celL_of (List.getElem?_set_self hl)
    have j1 : ∀ {Q : D → Prop}, (∃ r, dIx (cs.set b (.lst [.int d, .int mm, .int (c + 1)])) (.cel b) (.int 1) = some r ∧ Q r) ↔ Q (.int mm) := x_ixC (k := 1) e2 rfl
    have j2 : ∀ {Q : D → Prop}, (∃ r, dIx (cs.set b (.lst [.int d, .int mm, .int (c + 1)])) (.cel b) (.int 2) = some r ∧ Q r) ↔ Q (.int (c + 1)) := x_ixC (k := 2) e2 rfl
    show wpS (h_law_draw_2 _ (cs.set b (.lst [.int d, .int mm, .int (c + 1)]))) _
    unfold h_law_draw_2 h_law_draw_3 h_law_draw_4
    try walk_at "w"
    try simp only [j1, j2]
    try walk_at "w"
    try simp only [j1, j2]
    try walk_at "w"
    have q1 := Int.emod_nonneg ((mm + 1000003 * (c + 1)) ^ Int.toNat 3) (show (2305843009213693921 : Int) ≠ 0 by decide)
    have q2 := Int.emod_lt_of_pos ((mm + 1000003 * (c + 1)) ^ Int.toNat 3) (show (0 : Int) < 2305843009213693921 by decide)
    refine ⟨?_, ?_, ?_, ?_, ?_, ?_, ?_, ?_, ?_⟩
    · unfold cMul; rfl
    · unfold cPow; simp only [Bool.and_eq_true, decide_eq_true_eq]; omega
    · rfl
    · unfold cMul; rfl
    · unfold cPow; simp only [Bool.and_eq_true, decide_eq_true_eq]; omega
    · rfl
    · unfold cDiv; rfl
    · unfold cMod; simpa using h0
    · refine k _ _ (Int.emod_nonneg _ (by omega)) (Int.emod_lt_of_pos _ h0) ⟨d, mm, c + 1, List.getElem?_set_self hl, ⟨d0, m0, m1, by omega, by omega⟩⟩ Kp.set
end F

/-! names and words, plain -/
namespace F
open PySem L2
abbrev tx (l : List Nat) : Str := ⟨l.toArray⟩
theorem tx_inj {a b : List Nat} (h : tx a = tx b) : a = b := congrArg (fun x : Str => x.cps.toList) h
theorem tx_len (a : List Nat) : (tx a).length = a.length := by simp [tx, Str.length]
def nmS (x : Str) : Bool := decide (1 ≤ x.length) && (decide (x.length ≤ 8) && x.cps.toList.all fun c => decide (97 ≤ c) && decide (c ≤ 122))
def isNm : D → Bool
  | .str x => nmS x
  | _ => false
section
variable {x : Str}
theorem nmS_len (h : nmS x = true) : 1 ≤ x.length ∧ x.length ≤ 8 := by
  unfold nmS at h
  simp only [Bool.and_eq_true, decide_eq_true_eq] at h
  exact ⟨h.1, h.2.1⟩
theorem nmS_all (h : nmS x = true) : ∀ c ∈ x.cps.toList, 97 ≤ c ∧ c ≤ 122 := by
  unfold nmS at h
  simp only [Bool.and_eq_true, decide_eq_true_eq, List.all_eq_true] at h
  exact h.2.2
theorem nmS_of (h1 : 1 ≤ x.length) (h2 : x.length ≤ 8) (h3 : ∀ c ∈ x.cps.toList, 97 ≤ c ∧ c ≤ 122) : nmS x = true := by
  unfold nmS
  simp only [Bool.and_eq_true, decide_eq_true_eq, List.all_eq_true]
  exact ⟨h1, h2, h3⟩
theorem nmS_not {c : Nat} (hc : c ∈ x.cps.toList) (h : ¬ (97 ≤ c ∧ c ≤ 122)) : nmS x = false := by
  cases e : nmS x with
  | false => rfl
  | true => exact absurd (nmS_all e c hc) h
end
/-- names of one length that differ -/
structure WordsOk (n : Nat) (ws : List Str) : Prop where
  len : ws.length = n
  nm : ∀ x ∈ ws, nmS x = true
  up : ∀ x ∈ ws, x ≠ "up"
  nd : ws.Nodup
def ltr (c : Nat) : Prop := 97 ≤ c ∧ c ≤ 122
theorem letters_eq : (("abcdefghijklmnopqrstuvwxyz" : Str)).cps.toList = List.range' 97 26 := by decide +kernel
theorem letters_mem {c : Nat} : c ∈ (("abcdefghijklmnopqrstuvwxyz" : Str)).cps.toList ↔ 97 ≤ c ∧ c ≤ 122 := by
  rw [letters_eq, List.mem_range'_1]
  omega
theorem letters_at {i : Nat} (h : i < 26) : (("abcdefghijklmnopqrstuvwxyz" : Str)).cps.toList[i]? = some (97 + i) := by
  rw [letters_eq, List.getElem?_range' h]
  congr 1
  omega
theorem joinL_one : ∀ cs : List Nat, TL.joinL [] (cs.map fun c => [c]) = cs
  | [] => rfl
  | [_] => rfl
  | c :: d :: r => by
    have e := joinL_one (d :: r)
    show [c] ++ ([] ++ TL.joinL [] ((d :: r).map fun c => [c])) = c :: d :: r
    rw [e]
    rfl
theorem empty_tx : ("" : Str) = tx [] := by decide +kernel
theorem join_one (cs : List Nat) : Txt.join ("" : Str) (cs.map fun c => tx [c]) = tx cs := by
  rw [empty_tx]
  have e := SX.join_S [] (cs.map fun c => [c])
  rw [joinL_one] at e
  rw [List.map_map] at e
  exact e
theorem sum_one : ∀ cs : List Nat, ((cs.map fun c => tx [c]).map (·.length)).sum = cs.length
  | [] => rfl
  | c :: cs => by
    show (tx [c]).length + ((cs.map fun c => tx [c]).map (·.length)).sum = cs.length + 1
    rw [sum_one cs, tx_len]
    simp
    omega
def fnd (l r : List Nat) (f s : Int) (k : Nat) : List Nat := l ++ [97 + ((f + k * s) % 26).toNat] ++ r
def upL : List Nat := [117, 112]
def uppL : List Nat := [117, 112, 112]
def fin1 (x : List Nat) : List Nat := if x = upL then uppL else x
theorem up_S : ("up" : Str) = tx upL := by decide +kernel
theorem upp_S : ("upp" : Str) = tx uppL := by decide +kernel
theorem S_length (l : List Nat) : (tx l).length = l.length := tx_len l
theorem fnd_inj {l r : List Nat} {f : Int} {q : Nat} (hq : q < 6) (f0 : 0 ≤ f) {j k : Nat} (hj : j < 13) (hk : k < 13) (e : fnd l r f (1 + 2 * q) j = fnd l r f (1 + 2 * q) k) : j = k := by
  unfold fnd at e
  rw [List.append_assoc, List.append_assoc] at e
  have e2 := List.append_cancel_left e
  have e3 : 97 + ((f + j * (1 + 2 * q)) % 26).toNat = 97 + ((f + k * (1 + 2 * q)) % 26).toNat := by
    have := congrArg (fun z => z.head?) e2
    simpa using this
  have m1 : (0 : Int) ≤ (f + j * (1 + 2 * q)) % 26 := Int.emod_nonneg _ (by decide)
  have m2 : (0 : Int) ≤ (f + k * (1 + 2 * q)) % 26 := Int.emod_nonneg _ (by decide)
  have e4 : (f + j * (1 + 2 * q)) % 26 = (f + k * (1 + 2 * q)) % 26 := by omega
  obtain rfl | rfl | rfl | rfl | rfl | rfl : q = 0 ∨ q = 1 ∨ q = 2 ∨ q = 3 ∨ q = 4 ∨ q = 5 := by omega
  all_goals omega
theorem words_ok {l r : List Nat} {f : Int} {q m : Nat} (hq : q < 6) (f0 : 0 ≤ f) (hm : m ≤ 13) (ll : l.length ≤ 3) (lr : r.length ≤ 3) (hl : ∀ c ∈ l, ltr c) (hr : ∀ c ∈ r, ltr c) :
    WordsOk m ((List.range m).map fun k => tx (fin1 (fnd l r f (1 + 2 * q) k))) := by
  have flen : ∀ k, (fnd l r f (1 + 2 * q) k).length = l.length + 1 + r.length := fun k => by
    unfold fnd
    simp only [List.length_append, List.length_cons, List.length_nil]
  have fl : ∀ k, ∀ c ∈ fnd l r f (1 + 2 * q) k, ltr c := fun k c hc => by
    unfold fnd at hc
    rcases List.mem_append.mp hc with hc | hc
    · rcases List.mem_append.mp hc with hc | hc
      · exact hl c hc
      · simp at hc
        have m1 : (0 : Int) ≤ (f + k * (1 + 2 * q)) % 26 := Int.emod_nonneg _ (by decide)
        have m2 : (f + k * (1 + 2 * q)) % 26 < 26 := Int.emod_lt_of_pos _ (by decide)
        exact ⟨by omega, by omega⟩
    · exact hr c hc
  refine ⟨by simp, fun x hx => ?_, fun x hx => ?_, ?_⟩
  · obtain ⟨k, hk, rfl⟩ := List.mem_map.mp hx
    unfold fin1
    split
    · decide +kernel
    · refine nmS_of ?_ ?_ fun c hc => fl k c ?_
      · rw [S_length, flen]; omega
      · rw [S_length, flen]; omega
      · simpa [tx] using hc
  · obtain ⟨k, hk, rfl⟩ := List.mem_map.mp hx
    rw [up_S]
    intro e
    have e := tx_inj e
    unfold fin1 at e
    split at e
    · exact absurd e (by decide)
    · exact absurd e ‹_›
  · show List.Pairwise (· ≠ ·) _
    rw [List.pairwise_map]
    refine List.Pairwise.imp_of_mem (fun {i j} hi hj hne => ?_) (List.nodup_range (n := m))
    have hi := List.mem_range.mp hi
    have hj := List.mem_range.mp hj
    intro e
    have e : fin1 (fnd l r f (1 + 2 * q) i) = fin1 (fnd l r f (1 + 2 * q) j) := tx_inj e
    have ne : fnd l r f (1 + 2 * q) i ≠ fnd l r f (1 + 2 * q) j := fun z => absurd (fnd_inj hq f0 (by omega) (by omega) z) (by omega)
    unfold fin1 at e
    by_cases h1 : fnd l r f (1 + 2 * q) i = upL
    · by_cases h2 : fnd l r f (1 + 2 * q) j = upL
      · exact ne (h1.trans h2.symm)
      · rw [if_pos h1, if_neg h2] at e
        have a := flen i
        have b := flen j
        rw [h1] at a
        rw [← e] at b
        have a' : 2 = l.length + 1 + r.length := a
        have b' : 3 = l.length + 1 + r.length := b
        omega
    · by_cases h2 : fnd l r f (1 + 2 * q) j = upL
      · rw [if_neg h1, if_pos h2] at e
        have a := flen i
        have b := flen j
        rw [h2] at b
        rw [e] at a
        have a' : 3 = l.length + 1 + r.length := a
        have b' : 2 = l.length + 1 + r.length := b
        omega
      · rw [if_neg h1, if_neg h2] at e
        exact ne e

end F

/-! the shared helpers, what they answer (2) -/
namespace F
open PySem L2
local macro_rules | `(tactic| walk_at "w") => `(tactic| simp only [w_run, w_var, w_c, w_1, w_2, w_N, w_bV, w_bNot, w_bOr, w_bAnd, w_xOr, w_xAnd, w_xNot, w_xIf, w_aNil, w_aCons, w_aStar, w_tup, w_lst, w_tupS, w_lstS, w_lstC, w_listC, w_oNone, w_oSome, w_sl, w_join, w_call, w_chk, w_at, w_lenO, w_chain, w_tru, w_inO, w_xf, w_isX, w_eq, w_lc, w_iSeq, w_iEnu, w_iStr, w_iRng, w_yes,
  s_seq, s_nx, s_set, s_drop, s_ret, s_retN, s_if, s_asg, s_par2, s_par3, s_raise, s_ownC, s_ownL, s_mutO, s_own, s_addO, s_fldO, s_for, s_setI, s_turn,
  ex_some, ex_if, ex_none, ex_bl, ex_int, ex_str, x_addI, x_addS, x_addT, x_addL, x_sub, x_mul, x_mod, x_div, x_pow, x_lt, x_le, x_gt, x_ge, x_neg, x_int, x_abs, x_min, x_max, x_lenS, x_lenL, x_lenW, x_lenT, x_eqS, x_neS, x_eqI, x_neI, x_isN, x_notN, x_ixL, x_ixW, x_ixT, x_ixS, x_tupL, x_tupT, x_frzL, x_frzT, x_frzW, x_enuL, x_seqL, x_seqT, x_gN, x_g2,
  List.getElem?_cons_zero, List.getElem?_cons_succ, List.set_cons_zero, List.set_cons_succ, List.length_nil, wipeL, decide_eq_true_eq, Bool.not_eq_true', decide_eq_false_iff_not, true_and, and_true])
theorem wp_ok {α : Type} {m : EM α} {cs cs' : Cells} {a : α} {Q : α → Cells → Prop} {E : Exn → Cells → Prop} (e : m cs = .ok a cs') (q : Q a cs') : wp m cs Q E := by
  unfold wp
  rw [e]
  exact q
theorem pow10_18 : (10 : Int) ^ (18 : Int).toNat = 1000000000000000000 := by decide +kernel
theorem bagged_wp {cs : Cells} {ns : List Int} {k : Nat} {Q : D → Cells → Prop} {E : Exn → Cells → Prop} (hk : k ≤ 100) (q : ∀ cs', Bag cs' cs.length 1000000 → cs'.length = cs.length + 1 → (∀ j, j < cs.length → cs'[j]? = cs[j]?) → Q (.cel cs.length) cs') : wp (H_law_bagged [.wls (ns.map D.int), .int (k : Int)] []) cs Q E := by
  show wp (runB h_law_bagged [.val (.wls (ns.map D.int)), .val (.int (k : Int)), .emp, .emp]) cs Q E
  have fin : ∀ z : Int, wpS (h_law_bagged_1 [.val (.wls (ns.map D.int)), .val (.int (k : Int)), .val (.int z), .emp] cs) fun fl cs' => match fl with
    | .ret d => Q d cs'
    | .nx _ => Q .non cs'
    | .ex x _ => E x cs'
    | _ => False := by
    intro z
    unfold h_law_bagged_1
    walk_at "w"
    refine ⟨by rfl, ?_⟩
    have fin2 : ∀ y : Int, 0 ≤ y → wpS (h_law_bagged_2 [.val (.wls (ns.map D.int)), .val (.int (k : Int)), .val (.int z), .val (.int y)] cs) fun fl cs' => match fl with
      | .ret d => Q d cs'
      | .nx _ => Q .non cs'
      | .ex x _ => E x cs'
      | _ => False := by
      intro y hy
      unfold h_law_bagged_2
      walk_at "w"
      have h1 := Int.emod_nonneg z (show (2305843009213693951 : Int) ≠ 0 by decide)
      have h2 := Int.emod_lt_of_pos z (show (0 : Int) < 2305843009213693951 by decide)
      refine ⟨by rfl, ?_, ?_, q _ ⟨y, _, 0, List.getElem?_concat_length, hy, ?_, ?_, by decide, by decide⟩ (by simp) fun j hj => List.getElem?_append_left hj⟩
      · unfold cMul; simp
      · unfold cMul; simp
      · omega
      · omega
    rw [pow10_18]
    by_cases p : (1000000000000000000 : Int) ≤ if z < 0 then -z else z
    · simp only [p, if_true]
      exact fin2 _ (by omega)
    · simp only [p, if_false]
      exact fin2 _ (by omega)
  unfold h_law_bagged
  walk_at "w"
  by_cases p : ((k : Nat) : Int) < ((ns.map D.int).length : Int)
  · simp only [p, if_true]
    have hl : k < ns.length := by simp at p; omega
    rw [atI_nat (x := D.int ns[k]) (by simp [hl])]
    walk_at "w"
    exact fin _
  · simp only [p, if_false]
    exact fin 0
theorem of_wp2 {cs : Cells} {b n : Nat} {xs : List D} {Q : D → Cells → Prop} {E : Exn → Cells → Prop} (hb : Bag cs b (n + 1)) (h0 : xs ≠ []) (h1 : xs.length ≤ 1000) (k : ∀ (i : Nat) x cs', xs[i]? = some x → Bag cs' b n → Kp b cs cs' → Q x cs') : wp (H_law_of [.cel b, .lst xs] []) cs Q E := by
  show wp (runB h_law_of [.val (.cel b), .val (.lst xs)]) cs Q E
  have hl := List.length_pos_iff.mpr h0
  unfold h_law_of
  walk_at "w"
  refine draw_wp hb (by omega) (by omega) fun r cs' r0 r1 hb' kp => ?_
  obtain ⟨t, rfl⟩ : ∃ t : Nat, r = (t : Int) := ⟨r.toNat, by omega⟩
  have ht : t < xs.length := by omega
  have e : xs[t]? = some xs[t] := List.getElem?_eq_getElem ht
  rw [x_ixL, atI_nat e]
  walk_at "w"
  exact k t _ cs' e hb' kp
/-- a comprehension whose turns each draw at most k times -/
theorem comp_bag {f : Nat → D} {g : XG} {fa : XE} {l : Loc} {n N k b : Nat} {cs : Cells} {U : List D → Cells → Prop} {E : Exn → Cells → Prop} (P : Nat → D → Prop) (hb : Bag cs b N) (hN : n * k ≤ N) (step : ∀ (i : Nat) (cs : Cells), i < n → Bag cs b (N - i * k) → ∃ l1, g (f i) l cs = some l1 ∧ wp (fa l1) cs (fun y cs2 => P i y ∧ Bag cs2 b (N - i * k - k) ∧ Kp b cs cs2) fun _ _ => False)
    (hd : ∀ (ys : List D) (cs' : Cells), ys.length = n → (∀ i y, ys[i]? = some y → P i y) → Bag cs' b (N - n * k) → Kp b cs cs' → U ys cs') : wp (compL g bYes fa l ((List.range n).map f)) cs U E := by
  refine comp_inv (fun i acc cs' => acc.length = i ∧ (∀ i y, acc[i]? = some y → P i y) ∧ Bag cs' b (N - i * k) ∧ Kp b cs cs') ⟨rfl, fun i y h => by simp at h, by simpa using hb, Kp.refl⟩ ?_ ?_
  · intro i d acc cs1 hi ⟨la, hp, hb1, kp⟩
    have hin : i < n := by
      have := (List.getElem?_eq_some_iff.mp hi).1
      simpa using this
    have hd' : d = f i := by
      rw [List.getElem?_map, List.getElem?_range hin] at hi
      exact (Option.some.inj hi).symm
    subst hd'
    obtain ⟨l1, e, w⟩ := step i cs1 hin hb1
    refine ⟨l1, e, ?_⟩
    rw [w_yes]
    simp only [if_true]
    refine wp_imp w (fun y cs2 ⟨py, hb2, kp2⟩ => ⟨by simp [la], ?_, ?_, kp.trans kp2⟩) fun _ _ h => h
    · intro j y' hj
      by_cases c : j < acc.length
      · rw [List.getElem?_append_left c] at hj
        exact hp j y' hj
      · rw [List.getElem?_append_right (by omega)] at hj
        have : j = i := by
          have := (List.getElem?_eq_some_iff.mp hj).1
          simp at this
          omega
        subst this
        rw [la, Nat.sub_self] at hj
        cases hj
        exact py
    · have : N - i * k - k = N - (i + 1) * k := by rw [Nat.add_mul]; omega
      rw [← this]
      exact hb2
  · intro acc cs1 ⟨la, hp, hb1, kp⟩
    rw [List.length_map, List.length_range] at la hb1
    exact hd acc cs1 la hp hb1 kp
theorem list_of {α : Type} {p : α → Prop} {f : α → D} : ∀ {xs : List D}, (∀ v ∈ xs, ∃ c, p c ∧ v = f c) → ∃ cs : List α, xs = cs.map f ∧ ∀ c ∈ cs, p c
  | [], _ => ⟨[], rfl, fun c h => by simp at h⟩
  | v :: xs, h => by
    obtain ⟨c, pc, rfl⟩ := h v List.mem_cons_self
    obtain ⟨cs, e, hc⟩ := list_of (xs := xs) fun u hu => h u (List.mem_cons_of_mem _ hu)
    refine ⟨c :: cs, by rw [e]; rfl, fun d hd => ?_⟩
    rcases List.mem_cons.mp hd with rfl | hd
    · exact pc
    · exact hc d hd
theorem strsOf_map : ∀ ws : List Str, strsOf (ws.map D.str) = some ws
  | [] => rfl
  | w :: ws => by
    show (strsOf (ws.map D.str)).map (w :: ·) = _
    rw [strsOf_map ws]
    rfl
theorem join_wp {l : Loc} {cs : Cells} {b n q : Nat} {Q : D → Cells → Prop} {E : Exn → Cells → Prop} (hv : l[0]? = some (.val (.cel b))) (hx : l[2]? = some (.val (.str "abcdefghijklmnopqrstuvwxyz"))) (hq : 0 < q ∧ q ≤ 5) (hb : Bag cs b (n + 5)) (k : ∀ ts cs', ts.length < q → (∀ c ∈ ts, ltr c) → Bag cs' b n → Kp b cs cs' → Q (.str (tx ts)) cs') :
    wp (xJoin (xC (.str "")) (xLc (iRng (xCall (kChk ([] : List Str).length H_law_draw) (aCons (xVar 0) (aCons (xC (.int q)) aNil)) aNil)) (gN 10) bYes (x2 dIx (xVar 2) (xCall (kChk ([] : List Str).length H_law_draw) (aCons (xVar 0) (aCons (xC (.int 26)) aNil)) aNil)) [10]) l) cs Q E := by
  walk_at "w"
  simp only [hv]
  refine draw_wp hb (by omega) (by omega) fun r cs1 r0 r1 hb1 kp => ?_
  obtain ⟨t, rfl⟩ : ∃ t : Nat, r = (t : Int) := ⟨r.toNat, by omega⟩
  walk_at "w"
  refine ⟨by omega, by simp; omega, ?_⟩
  rw [Int.toNat_natCast]
  refine comp_bag (N := n + 4) (k := 1) (fun _ y => ∃ c, ltr c ∧ y = .str (tx [c])) hb1 (by omega) ?_ ?_
  · intro i cs2 hi hb2
    refine ⟨_, rfl, ?_⟩
    have g0 : ((l.set 10 .emp).set 10 (.val (.int (i : Int))))[0]? = some (.val (.cel b)) := by simpa using hv
    have g2 : ((l.set 10 .emp).set 10 (.val (.int (i : Int))))[2]? = some (.val (.str "abcdefghijklmnopqrstuvwxyz")) := by simpa using hx
    walk_at "w"
    simp only [g0, g2]
    refine draw_wp (n := n + 4 - i * 1 - 1) (hb2.mono (by omega)) (by decide) (by decide) fun r cs3 r0 r1 hb3 kp3 => ?_
    obtain ⟨t2, rfl⟩ : ∃ t2 : Nat, r = (t2 : Int) := ⟨r.toNat, by omega⟩
    rw [x_ixS, atI_nat (letters_at (i := t2) (by omega))]
    walk_at "w"
    exact ⟨⟨97 + t2, ⟨by omega, by omega⟩, rfl⟩, hb3, kp3⟩
  · intro ys cs2 ly hy hb2 kp2
    obtain ⟨ts, rfl, ht⟩ := list_of (p := ltr) (f := fun c => D.str (tx [c])) (xs := ys) fun v hv => by
      obtain ⟨i, hi⟩ := List.mem_iff_getElem?.mp hv
      exact hy i v hi
    rw [List.length_map] at ly
    have e : joinD "" (.lst (ts.map fun c => D.str (tx [c]))) cs2 = some (.str (tx ts)) := by
      show (match strsOf (ts.map fun c => D.str (tx [c])) with
        | some zs => if (decide ((zs.map fun (z : Str) => z.length).sum + zs.length * ("" : Str).length ≤ 1000000) && fitB (Txt.join "" zs).length) = true then some (D.str (Txt.join "" zs)) else none
        | none => none) = _
      have e1 : (ts.map fun c => D.str (tx [c])) = (ts.map fun c => tx [c]).map D.str := by rw [List.map_map]; rfl
      rw [e1, strsOf_map]
      dsimp only
      rw [join_one, sum_one, if_pos]
      rw [Bool.and_eq_true]
      refine ⟨decide_eq_true ?_, decide_eq_true ?_⟩
      · have : ("" : Str).length = 0 := by decide +kernel
        rw [this]
        omega
      · rw [tx_len]; omega
    rw [e]
    walk_at "w"
    exact k ts cs2 (by omega) ht (hb2.mono (by omega)) (kp.trans kp2)
end F

/-! the shared helpers, what they answer (3) -/
namespace F
open PySem L2
local macro_rules | `(tactic| walk_at "w") => `(tactic| simp only [w_run, w_var, w_c, w_1, w_2, w_N, w_bV, w_bNot, w_bOr, w_bAnd, w_xOr, w_xAnd, w_xNot, w_xIf, w_aNil, w_aCons, w_aStar, w_tup, w_lst, w_tupS, w_lstS, w_lstC, w_listC, w_oNone, w_oSome, w_sl, w_join, w_call, w_chk, w_at, w_lenO, w_chain, w_tru, w_inO, w_xf, w_isX, w_eq, w_lc, w_iSeq, w_iEnu, w_iStr, w_iRng, w_yes,
  s_seq, s_nx, s_set, s_drop, s_ret, s_retN, s_if, s_asg, s_par2, s_par3, s_raise, s_ownC, s_ownL, s_mutO, s_own, s_addO, s_fldO, s_for, s_setI, s_turn,
  ex_some, ex_if, ex_none, ex_bl, ex_int, ex_str, x_addI, x_addS, x_addT, x_addL, x_sub, x_mul, x_mod, x_div, x_pow, x_lt, x_le, x_gt, x_ge, x_neg, x_int, x_abs, x_min, x_max, x_lenS, x_lenL, x_lenW, x_lenT, x_eqS, x_neS, x_eqI, x_neI, x_isN, x_notN, x_ixL, x_ixW, x_ixT, x_ixS, x_tupL, x_tupT, x_frzL, x_frzT, x_frzW, x_enuL, x_seqL, x_seqT, x_gN, x_g2,
  List.getElem?_cons_zero, List.getElem?_cons_succ, List.set_cons_zero, List.set_cons_succ, List.length_nil, wipeL, decide_eq_true_eq, Bool.not_eq_true', decide_eq_false_iff_not, true_and, and_true])
theorem atIi {α : Type} {xs : List α} {i : Int} {v : α} (h0 : 0 ≤ i) (h : xs[i.toNat]? = some v) : atI xs i = some v := E.atI_of h0 h
theorem list_eq {ys : List D} {n : Nat} {h : Nat → D} (l : ys.length = n) (e : ∀ i y, ys[i]? = some y → y = h i) : ys = (List.range n).map h := by
  apply List.ext_getElem?
  intro i
  by_cases c : i < n
  · have c' : i < ys.length := by omega
    rw [List.getElem?_map, List.getElem?_range c, List.getElem?_eq_getElem c']
    exact congrArg some (e i _ (List.getElem?_eq_getElem c'))
  · rw [List.getElem?_eq_none (by omega), List.getElem?_eq_none (by simp; omega)]
theorem words_wp {cs : Cells} {b n m : Nat} {Q : D → Cells → Prop} {E : Exn → Cells → Prop} (hm : m ≤ 13) (hb : Bag cs b (n + 12)) (k : ∀ ws cs', WordsOk m ws → Bag cs' b n → Kp b cs cs' → Q (.lst (ws.map D.str)) cs') : wp (H_law_some_words [.cel b, .int (m : Int)] []) cs Q E := by
  show wp (runB h_law_some_words [.val (.cel b), .val (.int (m : Int)), .emp, .emp, .emp, .emp, .emp, .emp, .emp, .emp, .emp]) cs Q E
  rw [w_run]
  unfold h_law_some_words h_law_some_words_1 h_law_some_words_2
  rw [s_seq, s_set, w_c]
  simp only [List.set_cons_zero, List.set_cons_succ]
  rw [s_seq, s_set]
  refine join_wp (q := 4) (n := n + 7) rfl rfl (by decide) hb fun t1 cs1 l1 g1 hb1 kp1 => ?_
  simp only [List.set_cons_zero, List.set_cons_succ]
  rw [s_seq, s_set]
  refine join_wp (q := 4) (n := n + 2) rfl rfl (by decide) hb1 fun t2 cs2 l2 g2 hb2 kp2 => ?_
  unfold h_law_some_words_3
  walk_at "w"
  refine draw_wp (n := n + 1) hb2 (by decide) (by decide) fun f cs3 f0 f1 hb3 kp3 => ?_
  refine draw_wp (n := n) hb3 (by decide) (by decide) fun q cs4 q0 q1 hb4 kp4 => ?_
  obtain ⟨q, rfl⟩ : ∃ t : Nat, q = (t : Int) := ⟨q.toNat, by omega⟩
  walk_at "w"
  refine ⟨by unfold cMul; simp, ?_⟩
  unfold h_law_some_words_4 h_law_some_words_5
  walk_at "w"
  refine ⟨by omega, by simp; omega, ?_⟩
  rw [Int.toNat_natCast]
  refine comp_bag (N := n) (k := 0) (fun i y => y = .str (tx (fnd t1 t2 f (1 + 2 * q) i))) hb4 (by omega) ?_ ?_
  · intro i cs5 hi hb5
    refine ⟨_, rfl, ?_⟩
    have m1 : (0 : Int) ≤ (f + i * (1 + 2 * q)) % 26 := Int.emod_nonneg _ (by decide)
    have m2 : (f + i * (1 + 2 * q)) % 26 < 26 := Int.emod_lt_of_pos _ (by decide)
    walk_at "w"
    refine ⟨?_, by rfl, ?_⟩
    · unfold cMul
      simp only [Bool.or_eq_true, Bool.and_eq_true, decide_eq_true_eq]
      omega
    · rw [atIi m1 (letters_at (by omega))]
      walk_at "w"
      refine ⟨?_, ?_, ?_, by simpa using hb5, Kp.refl⟩
      · unfold fitB
        rw [decide_eq_true_eq, tx_len]
        show t1.length + 1 ≤ _
        omega
      · unfold fitB
        rw [decide_eq_true_eq, str_app_len, tx_len, tx_len]
        show t1.length + 1 + t2.length ≤ _
        omega
      · have e : ∀ a b : List Nat, tx a ++ tx b = tx (a ++ b) := fun a b => by
          show Str.mk _ = Str.mk _
          simp
        show D.str (tx t1 ++ tx [97 + ((f + i * (1 + 2 * q)) % 26).toNat] ++ tx t2) = _
        rw [e, e]
        rfl
  · intro ys cs5 ly hy hb5 kp5
    have ey := list_eq (h := fun i => D.str (tx (fnd t1 t2 f (1 + 2 * q) i))) ly hy
    subst ey
    refine ⟨by simp; omega, ?_⟩
    refine comp_bag (N := n) (k := 0) (fun i y => y = .str (tx (fin1 (fnd t1 t2 f (1 + 2 * q) i)))) (by simpa using hb5) (by omega) ?_ ?_
    · intro i cs6 hi hb6
      refine ⟨_, rfl, ?_⟩
      walk_at "w"
      by_cases p : (tx (fnd t1 t2 f (1 + 2 * q) i)) = "up"
      · simp only [p, not_true, if_false]
        refine ⟨?_, by simpa using hb6, Kp.refl⟩
        rw [up_S] at p
        rw [tx_inj p, upp_S]
        rfl
      · simp only [p, not_false_iff, if_true]
        refine ⟨?_, by simpa using hb6, Kp.refl⟩
        unfold fin1
        rw [if_neg]
        intro z
        exact p (by rw [z]; exact up_S.symm)
    · intro zs cs6 lz hz hb6 kp6
      have ez := list_eq (h := fun i => D.str (tx (fin1 (fnd t1 t2 f (1 + 2 * q) i)))) lz hz
      subst ez
      have := k _ cs6 (words_ok (l := t1) (r := t2) (f := f) (q := q) (m := m) (by omega) f0 hm (by omega) (by omega) g1 g2) (by simpa using hb6) ((((kp1.trans kp2).trans kp3).trans kp4).trans (kp5.trans kp6))
      rw [List.map_map] at this
      exact this
def odds : List D := [.non, .bl true, .bl false, .int 0, .int 1, .int (-7), .str "", .str "A", .str "a b", .str "a1", .str "abcdefghi", .str " a", .str "a\n", .str "(a)", .str "aa-b",
  .tup [.str "a"], .lst [.str "a"], .lst [], .tup [], .lst [.lst [.str "a"], .non], .str "Ab", .str "_", .str "a.b", .int 10000000000000000000]
theorem pow10_19 : (10 : Int) ^ (19 : Int).toNat = 10000000000000000000 := by decide +kernel
theorem odd_wp {cs : Cells} {b n : Nat} {a : Int} {Q : D → Cells → Prop} {E : Exn → Cells → Prop} (ha : 0 ≤ a) (hb : Bag cs b (n + 1)) (k : ∀ x cs', x ∈ odds → Bag cs' b n → Kp b cs cs' → Q x cs') : wp (H_law_odd_one [.cel b, .int a] []) cs Q E := by
  show wp (runB h_law_odd_one [.val (.cel b), .val (.int a), .emp]) cs Q E
  unfold h_law_odd_one h_law_odd_one_1 h_law_odd_one_2
  walk_at "w"
  refine ⟨by rfl, by rfl, ?_⟩
  rw [pow10_19]
  refine draw_wp hb (by decide) (by decide) fun r cs' r0 r1 hb' kp => ?_
  walk_at "w"
  refine ⟨by rfl, ?_⟩
  have m1 : (0 : Int) ≤ (r + a) % 24 := Int.emod_nonneg _ (by decide)
  have m2 : (r + a) % 24 < 24 := Int.emod_lt_of_pos _ (by decide)
  have hl : ((r + a) % 24).toNat < odds.length := by show _ < 24; omega
  refine ⟨odds[((r + a) % 24).toNat], atIi (v := odds[((r + a) % 24).toNat]) m1 (List.getElem?_eq_getElem hl), k _ cs' (List.getElem_mem hl) hb' kp⟩
def datD : D → Bool
  | .non => true
  | .bl _ => true
  | .int _ => true
  | .str _ => true
  | .tup _ => true
  | .lst _ => true
  | _ => false
def isStrD : D → Bool
  | .str _ => true
  | _ => false
theorem x_isiS {tb : Tb} {cs : Cells} {d : D} {Q : D → Prop} (h : datD d = true) : (∃ r, dIsi tb cs [d, .ty "str"] = some r ∧ Q r) ↔ Q (.bl (isStrD d)) := by
  have e : dIsi tb cs [d, .ty "str"] = some (.bl (isStrD d)) := by
    cases d <;> first | (cases h; done) | rfl | (show Option.map _ (isiB _ _) = _; decide +kernel) | skip
    all_goals (show Option.map D.bl (isiB _ _) = _; rfl)
  rw [e]
  exact ex_some
theorem comp_map {g : XG} {fa : XE} {l : Loc} {cs : Cells} {U : List D → Cells → Prop} {E : Exn → Cells → Prop} {ds : List D} (h : D → D) (step : ∀ d ∈ ds, ∃ l1, g d l cs = some l1 ∧ wp (fa l1) cs (fun y cs2 => y = h d ∧ cs2 = cs) fun _ _ => False) (q : U (ds.map h) cs) : wp (compL g bYes fa l ds) cs U E := by
  refine comp_inv (fun i acc cs' => cs' = cs ∧ acc = (ds.take i).map h) ⟨rfl, by simp⟩ ?_ ?_
  · rintro i d acc cs1 hi ⟨rfl, rfl⟩
    obtain ⟨l1, e, w⟩ := step d (List.mem_of_getElem? hi)
    refine ⟨l1, e, ?_⟩
    rw [w_yes]
    simp only [if_true]
    refine wp_imp w (fun y cs2 ⟨py, ec⟩ => ⟨ec, ?_⟩) fun _ _ h => h
    rw [List.take_succ, hi, py]
    simp
  · rintro acc cs1 ⟨rfl, rfl⟩
    rw [List.take_length]
    exact q
theorem x_notInS {cs : Cells} {c : Nat} {x : Str} {Q : D → Prop} : (∃ r, dNotIn cs (.str ⟨#[c]⟩) (.str x) = some r ∧ Q r) ↔ Q (.bl (!decide (c ∈ x.cps.toList))) := ex_some
theorem x_inS {cs : Cells} {c : Nat} {x : Str} {Q : D → Prop} : (∃ r, dIn cs (.str ⟨#[c]⟩) (.str x) = some r ∧ Q r) ↔ Q (.bl (decide (c ∈ x.cps.toList))) := ex_some
theorem wp_eq {α : Type} {m : EM α} {cs cs' : Cells} {a : α} {Q : α → Cells → Prop} {E : Exn → Cells → Prop} (e : m cs = .ok a cs') : wp m cs Q E ↔ Q a cs' := by
  unfold wp
  rw [e]
theorem eq_wp {α : Type} {m : EM α} {cs cs' : Cells} {a : α} (h : wp m cs (fun r c => r = a ∧ c = cs') fun _ _ => False) : m cs = .ok a cs' := by
  obtain ⟨r, c, e, rfl, rfl⟩ := of_wp h
  exact e
theorem nm_cut {x : Str} : ¬ (1 ≤ (x.length : Int) ∧ (x.length : Int) ≤ 8) → nmS x = false := fun h => by
  cases e : nmS x with
  | false => rfl
  | true => exact absurd (nmS_len e) (by omega)
theorem is_name_eq {tb : Tb} {cs : Cells} {d : D} (hd : datD d = true) : H_is_name tb [d] [] cs = .ok (.bl (isNm d)) cs := by
  apply eq_wp
  show wp (runB (h_is_name tb) [.val d, .emp]) cs _ _
  unfold h_is_name
  walk_at "w"
  simp only [x_isiS hd]
  walk_at "w"
  cases d with
  | str x =>
    simp only [isStrD]
    walk_at "w"
    by_cases p : (1 : Int) ≤ x.length
    · by_cases q : (x.length : Int) ≤ 8
      · simp only [p, q, Bool.not_true, Bool.false_eq_true, if_false, if_true]
        unfold h_is_name_1 h_is_name_2
        walk_at "w"
        refine for_inv (fun i l cs' => cs' = cs ∧ (∃ s, l = [.val (.str x), s]) ∧ ∀ c ∈ x.cps.toList.take i, 97 ≤ c ∧ c ≤ 122) ⟨rfl, ⟨_, rfl⟩, fun c h => by simp at h⟩ ?_ ?_
        · rintro i d l cs1 hi ⟨rfl, ⟨s, rfl⟩, hc⟩
          rw [List.getElem?_map] at hi
          cases hx : x.cps.toList[i]? with
          | none => rw [hx] at hi; cases hi
          | some c =>
            rw [hx] at hi
            cases hi
            walk_at "w"
            simp only [x_notInS]
            walk_at "w"
            by_cases z : c ∈ ("abcdefghijklmnopqrstuvwxyz" : Str).cps.toList
            · simp only [z, not_true, if_false]
              refine ⟨⟨_, rfl⟩, fun c' h' => ?_⟩
              rw [List.take_succ, hx] at h'
              rcases List.mem_append.mp h' with h' | h'
              · exact hc c' h'
              · simp at h'
                rw [h']
                exact letters_mem.mp z
            · simp only [z, not_false_iff, if_true]
              have := nmS_not (x := x) (List.mem_of_getElem? hx) fun w => z (letters_mem.mpr w)
              show D.bl false = .bl (nmS x)
              rw [this]
        · rintro l cs1 ⟨rfl, ⟨s, rfl⟩, hc⟩
          walk_at "w"
          rw [List.length_map, List.take_length] at hc
          show D.bl true = .bl (nmS x)
          rw [nmS_of (by omega) (by omega) hc]
      · simp only [p, q, Bool.not_true, Bool.not_false, Bool.false_eq_true, if_false, if_true]
        show D.bl false = .bl (nmS x)
        rw [nm_cut (by omega)]
    · simp only [p, Bool.not_true, Bool.not_false, Bool.false_eq_true, if_false, if_true]
      show D.bl false = .bl (nmS x)
      rw [nm_cut (by omega)]
  | _ =>
    simp only [isStrD, Bool.not_false, if_true]
    first
    | rfl
    | cases hd
end F

/-! the shared helpers, what they answer (4) -/
namespace F
open PySem L2
local macro_rules | `(tactic| walk_at "w") => `(tactic| simp only [w_run, w_var, w_c, w_1, w_2, w_N, w_bV, w_bNot, w_bOr, w_bAnd, w_xOr, w_xAnd, w_xNot, w_xIf, w_aNil, w_aCons, w_aStar, w_tup, w_lst, w_tupS, w_lstS, w_lstC, w_listC, w_oNone, w_oSome, w_sl, w_join, w_call, w_chk, w_at, w_lenO, w_chain, w_tru, w_inO, w_xf, w_isX, w_eq, w_lc, w_iSeq, w_iEnu, w_iStr, w_iRng, w_yes,
  s_seq, s_nx, s_set, s_drop, s_ret, s_retN, s_if, s_asg, s_par2, s_par3, s_raise, s_ownC, s_ownL, s_mutO, s_own, s_addO, s_fldO, s_for, s_setI, s_turn,
  ex_some, ex_if, ex_none, ex_bl, ex_int, ex_str, x_addI, x_addS, x_addT, x_addL, x_sub, x_mul, x_mod, x_div, x_pow, x_lt, x_le, x_gt, x_ge, x_neg, x_int, x_abs, x_min, x_max, x_lenS, x_lenL, x_lenW, x_lenT, x_eqS, x_neS, x_eqI, x_neI, x_isN, x_notN, x_ixL, x_ixW, x_ixT, x_ixS, x_tupL, x_tupT, x_frzL, x_frzT, x_frzW, x_enuL, x_seqL, x_seqT, x_gN, x_g2,
  List.getElem?_cons_zero, List.getElem?_cons_succ, List.set_cons_zero, List.set_cons_succ, List.length_nil, wipeL, decide_eq_true_eq, Bool.not_eq_true', decide_eq_false_iff_not, true_and, and_true])
theorem blsOf_map {α : Type} {p : α → Bool} : ∀ xs : List α, blsOf (xs.map fun x => D.bl (p x)) = some (xs.map p)
  | [] => rfl
  | x :: xs => by
    show (blsOf (xs.map fun x => D.bl (p x))).map (p x :: ·) = _
    rw [blsOf_map xs]
    rfl
theorem law_is_name_eq {tb : Tb} {cs : Cells} {d : D} (hd : datD d = true) : H_law_is_name tb [d] [] cs = .ok (.bl (isNm d)) cs := by
  apply eq_wp
  show wp (runB (h_law_is_name tb) [.val d, .emp]) cs _ _
  unfold h_law_is_name
  walk_at "w"
  simp only [x_isiS hd]
  walk_at "w"
  cases d with
  | str x =>
    simp only [isStrD]
    walk_at "w"
    by_cases p : (x.length : Int) < 1
    · simp only [p, Bool.not_true, Bool.false_eq_true, if_false, if_true]
      show D.bl false = .bl (nmS x)
      rw [nm_cut (by omega)]
    · by_cases q : 8 < (x.length : Int)
      · simp only [p, q, Bool.not_true, Bool.false_eq_true, if_false, if_true]
        show D.bl false = .bl (nmS x)
        rw [nm_cut (by omega)]
      · simp only [p, q, Bool.not_true, Bool.false_eq_true, if_false, if_true]
        unfold h_law_is_name_1
        walk_at "w"
        have hxl : x.cps.toList.length = x.length := by simp [Str.length]
        refine ⟨by rw [List.length_map, hxl]; omega, ?_⟩
        refine comp_map (fun d => match d with | .str y => .bl (y.cps.toList.all fun c => decide (c ∈ ("abcdefghijklmnopqrstuvwxyz" : Str).cps.toList)) | _ => .non) ?_ ?_
        · intro d hd
          obtain ⟨c, hc, rfl⟩ := List.mem_map.mp hd
          refine ⟨_, rfl, ?_⟩
          walk_at "w"
          simp only [x_inS]
          simp
        · rw [List.map_map]
          have e : dAll cs [.lst (x.cps.toList.map fun c => D.bl (decide (c ∈ ("abcdefghijklmnopqrstuvwxyz" : Str).cps.toList)))] = some (.bl (nmS x)) := by
            show (blsOf _).map (fun bs => D.bl (bs.all id)) = _
            rw [blsOf_map]
            show some (D.bl _) = _
            congr 2
            have a : (x.cps.toList.map fun c => decide (c ∈ ("abcdefghijklmnopqrstuvwxyz" : Str).cps.toList)).all id = x.cps.toList.all fun c => decide (97 ≤ c) && decide (c ≤ 122) := by
              rw [List.all_map]
              congr 1
              funext c
              show decide _ = _
              rw [← Bool.decide_and]
              exact decide_eq_decide.mpr letters_mem
            rw [a]
            unfold nmS
            rw [decide_eq_true (show 1 ≤ x.length by omega), decide_eq_true (show x.length ≤ 8 by omega)]
            rfl
          refine ⟨_, ?_, rfl, rfl⟩
          refine Eq.trans ?_ e
          congr 3
          apply List.map_congr_left
          intro c _
          show D.bl _ = D.bl _
          simp
  | _ =>
    simp only [isStrD, Bool.not_false, if_true]
    first
    | rfl
    | cases hd
def isPt : D → Bool
  | .str x => nmS x && !decide (x = "up")
  | _ => false
theorem is_part_eq {tb : Tb} {cs : Cells} {d : D} (hd : datD d = true) : H_is_part tb [d] [] cs = .ok (.bl (isPt d)) cs := by
  apply eq_wp
  show wp (runB (h_is_part tb) [.val d]) cs _ _
  unfold h_is_part
  walk_at "w"
  rw [wp_eq (is_name_eq hd)]
  walk_at "w"
  cases d with
  | str x =>
    show (if nmS x = true then _ else _)
    cases e : nmS x with
    | true =>
      rw [if_pos rfl]
      try walk_at "w"
      show D.bl _ = D.bl (nmS x && _)
      rw [e]
      rfl
    | false =>
      rw [if_neg Bool.false_ne_true]
      try walk_at "w"
      show D.bl _ = D.bl (nmS x && _)
      rw [e]
      rfl
  | _ => first | (cases hd; done) | simp [isNm, isPt]
abbrev badX (d : D) : Exn := mkX "BadName" ["name"] [d]
abbrev twiceX (d : D) : Exn := mkX "Twice" ["name"] [d]
theorem look_name_wp {tb : Tb} {cs : Cells} {d : D} {Q : D → Cells → Prop} {E : Exn → Cells → Prop} (hd : datD d = true) : wp (H_look_name tb [d] []) cs Q E ↔ if isNm d = true then Q d cs else E (badX d) cs := by
  show wp (runB (h_look_name tb) [.val d]) cs _ _ ↔ _
  unfold h_look_name h_look_name_1
  walk_at "w"
  rw [wp_eq (is_name_eq hd)]
  walk_at "w"
  cases isNm d with
  | true => simp
  | false => simp
theorem look_parts_wp {tb : Tb} {cs : Cells} {ds : List D} {Q : D → Cells → Prop} {E : Exn → Cells → Prop} (hd : ∀ d ∈ ds, datD d = true) (h : match ds.find? (fun d => !isPt d) with | some d => E (badX d) cs | none => Q (.tup ds) cs) : wp (H_look_parts tb [.tup ds] []) cs Q E := by
  show wp (runB (h_look_parts tb) [.val (.tup ds), .emp]) cs _ _
  unfold h_look_parts h_look_parts_1
  walk_at "w"
  refine for_inv (fun i l cs' => cs' = cs ∧ (∃ s, l = [.val (.tup ds), s]) ∧ ∀ d ∈ ds.take i, isPt d = true) ⟨rfl, ⟨_, rfl⟩, fun c h => by simp at h⟩ ?_ ?_
  · rintro i d l cs1 hi ⟨rfl, ⟨s, rfl⟩, hc⟩
    walk_at "w"
    rw [wp_eq (is_part_eq (hd d (List.mem_of_getElem? hi)))]
    walk_at "w"
    cases e : isPt d with
    | true =>
      simp only [reduceCtorEq, if_false]
      refine ⟨⟨_, rfl⟩, fun d' h' => ?_⟩
      rw [List.take_succ, hi] at h'
      rcases List.mem_append.mp h' with h' | h'
      · exact hc d' h'
      · simp at h'
        rw [h']
        exact e
    | false =>
      simp only [if_true]
      refine ⟨rfl, ?_⟩
      have f : ds.find? (fun d => !isPt d) = some d := by
        rw [List.find?_eq_some_iff_getElem]
        obtain ⟨hl1, hl2⟩ := (List.getElem?_eq_some_iff.mp hi)
        refine ⟨by rw [e]; rfl, i, hl1, hl2, fun j hj => ?_⟩
        have hj2 : j < ds.length := by omega
        have := hc ds[j] (by
          rw [List.mem_take_iff_getElem]
          exact ⟨j, by omega, rfl⟩)
        rw [this]
        rfl
      rw [f] at h
      exact h
  · rintro l cs1 ⟨rfl, ⟨s, rfl⟩, hc⟩
    rw [List.take_length] at hc
    have f : ds.find? (fun d => !isPt d) = none := by
      rw [List.find?_eq_none]
      intro d hd
      rw [hc d hd]
      decide
    rw [f] at h
    walk_at "w"
    exact h
def dupS (seen : List Str) : List Str → Option Str
  | [] => none
  | x :: r => if x ∈ seen then some x else dupS (seen ++ [x]) r
theorem hasK_s {ws : List Str} {x : Str} : hasK (ws.map Sum.inr) (.inr x : Key) = decide (x ∈ ws) := by
  unfold hasK
  rw [List.any_map]
  rw [Bool.eq_iff_iff, List.any_eq_true, decide_eq_true_eq]
  constructor
  · rintro ⟨y, hy, e⟩
    have : (Sum.inr y : Key) = .inr x := of_decide_eq_true e
    cases this
    exact hy
  · intro h
    exact ⟨x, h, decide_eq_true rfl⟩
theorem dupS_at {ws seen : List Str} {i : Nat} {x : Str} (hi : ws[i]? = some x) (e : dupS [] ws = dupS (ws.take i) (ws.drop i)) : dupS [] ws = if x ∈ ws.take i then some x else dupS (ws.take (i + 1)) (ws.drop (i + 1)) := by
  have hl := List.getElem?_eq_some_iff.mp hi
  rw [e, List.drop_eq_getElem_cons hl.1, hl.2]
  show (if x ∈ ws.take i then some x else dupS (ws.take i ++ [x]) (ws.drop (i + 1))) = _
  rw [List.take_succ, hi]
  rfl
theorem look_once_wp {cs : Cells} {ws : List Str} {Q : D → Cells → Prop} {E : Exn → Cells → Prop} (hl : ws.length ≤ 1000) (h : match dupS [] ws with | some x => E (twiceX (.str x)) cs | none => Q .non cs) : wp (H_look_once [.tup (ws.map D.str)] []) cs Q E := by
  show wp (runB h_look_once [.val (.tup (ws.map D.str)), .emp, .emp]) cs _ _
  unfold h_look_once h_look_once_1
  walk_at "w"
  refine for_inv (fun i l cs' => cs' = cs ∧ (∃ s, l = [.val (.tup (ws.map D.str)), .own (.set ((ws.take i).map Sum.inr)), s]) ∧ dupS [] ws = dupS (ws.take i) (ws.drop i)) ⟨rfl, ⟨_, rfl⟩, rfl⟩ ?_ ?_
  · rintro i d l cs1 hi ⟨rfl, ⟨s, rfl⟩, hc⟩
    rw [List.getElem?_map] at hi
    cases hx : ws[i]? with
    | none => rw [hx] at hi; cases hi
    | some x =>
      rw [hx] at hi
      cases hi
      have st := dupS_at (seen := []) hx hc
      walk_at "w"
      simp only [keyOf]
      rw [hasK_s]
      by_cases z : x ∈ ws.take i
      · simp only [z, decide_true, bne_self_eq_false, Bool.true_bne, Bool.not_false, if_true]
        rw [if_pos z] at st
        rw [st] at h
        exact ⟨rfl, h⟩
      · simp only [z, decide_false, Bool.false_bne, Bool.false_eq_true, if_false]
        rw [if_neg z] at st
        walk_at "w"
        refine ⟨?_, ⟨.val (.str x), ?_⟩, st⟩
        · simp; omega
        · unfold addK
          rw [hasK_s, decide_eq_false z, if_neg Bool.false_ne_true, List.take_succ, hx]
          simp
  · rintro l cs1 ⟨rfl, ⟨s, rfl⟩, hc⟩
    rw [List.length_map, List.drop_length] at hc
    rw [hc] at h
    exact h
end F

/-! the shared helpers, what they answer (5) -/
namespace F
open PySem L2
local macro_rules | `(tactic| walk_at "w") => `(tactic| simp only [w_run, w_var, w_c, w_1, w_2, w_N, w_bV, w_bNot, w_bOr, w_bAnd, w_xOr, w_xAnd, w_xNot, w_xIf, w_aNil, w_aCons, w_aStar, w_tup, w_lst, w_tupS, w_lstS, w_lstC, w_listC, w_oNone, w_oSome, w_sl, w_join, w_call, w_chk, w_at, w_lenO, w_chain, w_tru, w_inO, w_xf, w_isX, w_eq, w_lc, w_iSeq, w_iEnu, w_iStr, w_iRng, w_yes,
  s_seq, s_nx, s_set, s_drop, s_ret, s_retN, s_if, s_asg, s_par2, s_par3, s_raise, s_ownC, s_ownL, s_mutO, s_own, s_addO, s_fldO, s_for, s_setI, s_turn,
  ex_some, ex_if, ex_none, ex_bl, ex_int, ex_str, x_addI, x_addS, x_addT, x_addL, x_sub, x_mul, x_mod, x_div, x_pow, x_lt, x_le, x_gt, x_ge, x_neg, x_int, x_abs, x_min, x_max, x_lenS, x_lenL, x_lenW, x_lenT, x_eqS, x_neS, x_eqI, x_neI, x_isN, x_notN, x_ixL, x_ixW, x_ixT, x_ixS, x_tupL, x_tupT, x_frzL, x_frzT, x_frzW, x_enuL, x_seqL, x_seqT, x_gN, x_g2,
  List.getElem?_cons_zero, List.getElem?_cons_succ, List.set_cons_zero, List.set_cons_succ, List.length_nil, wipeL, decide_eq_true_eq, Bool.not_eq_true', decide_eq_false_iff_not, true_and, and_true])
theorem repr_plain {q : Nat} (hr : ∀ c, 97 ≤ c → c ≤ 122 → PySem.Builtin.Str.reprChar q c = [c]) : ∀ (l : List Nat) (acc : Array Nat), (∀ c ∈ l, 97 ≤ c ∧ c ≤ 122) → (∀ c ∈ acc.toList, c < 1114112) → ∀ c ∈ (l.foldl (fun out c => out ++ (PySem.Builtin.Str.reprChar q c).toArray) acc).toList, c < 1114112
  | [], acc, _, h => h
  | d :: r, acc, hl, h => by
    refine repr_plain hr r (acc ++ (PySem.Builtin.Str.reprChar q d).toArray) (fun c hc => hl c (List.mem_cons_of_mem _ hc)) ?_
    intro c hc
    have hd := hl d List.mem_cons_self
    rw [hr d hd.1 hd.2] at hc
    simp at hc
    rcases hc with hc | hc
    · exact h c (by simpa using hc)
    · omega
theorem repr_ltr : (List.range' 97 26).all (fun c => decide (PySem.Builtin.Str.reprChar 39 c = [c]) && decide (PySem.Builtin.Str.reprChar 34 c = [c])) = true := by decide +kernel
theorem repr_l {q c : Nat} (hq : q = 34 ∨ q = 39) (h0 : 97 ≤ c) (h1 : c ≤ 122) : PySem.Builtin.Str.reprChar q c = [c] := by
  have := List.all_eq_true.mp repr_ltr c (by rw [List.mem_range'_1]; omega)
  simp only [Bool.and_eq_true, decide_eq_true_eq] at this
  rcases hq with rfl | rfl
  · exact this.2
  · exact this.1
theorem strOk_iff {x : Str} : PyData.strOk x = true ↔ ∀ c ∈ x.cps.toList, c < 1114112 := by
  unfold PyData.strOk
  rw [Array.all_eq_true']
  constructor
  · intro h c hc
    have := h c (by simpa using hc)
    simpa using this
  · intro h c hc
    have := h c (by simpa using hc)
    simpa using this
theorem strOk_nm {x : Str} (h : nmS x = true) : PyData.strOk x = true := strOk_iff.mpr fun c hc => by
  have := nmS_all h c hc
  omega
theorem strOk_repr {x : Str} (h : nmS x = true) : PyData.strOk (reprText x) = true := strOk_iff.mpr fun c hc => by
  have hq : reprQuote x = 34 ∨ reprQuote x = 39 := by
    unfold reprQuote
    split
    · exact .inl rfl
    · exact .inr rfl
  unfold reprText at hc
  have hc' : c ∈ ((x.cps.foldl (fun out c => out ++ (PySem.Builtin.Str.reprChar (reprQuote x) c).toArray) #[reprQuote x]).push (reprQuote x)).toList := hc
  rw [Array.toList_push, ← Array.foldl_toList, List.mem_append] at hc'
  rcases hc' with hc' | hc'
  · refine repr_plain (q := reprQuote x) (fun c h0 h1 => repr_l hq h0 h1) x.cps.toList #[reprQuote x] (nmS_all h) ?_ c hc'
    intro d hd
    simp at hd
    omega
  · simp at hc'
    omega
/-! data that == and repr take -/
def okD (d : D) : Bool := match toP0 d with
  | some p => p.canLay0 && (decide (p.depth ≤ 20) && PyData.eqv p p)
  | none => false
theorem okD_nm {x : Str} (h : nmS x = true) : okD (.str x) = true := by
  show (PyData.strOk x && (decide (0 ≤ 20) && PyData.eqv (.str x) (.str x))) = true
  rw [strOk_nm h]
  simp [PyData.eqv]
theorem okD_odds : odds.all okD = true := by decide +kernel
theorem toPs_ok : ∀ {ds : List D}, (∀ d ∈ ds, okD d = true) → ∃ ps, toPs ds = some ps ∧ PyData.canLayAll0 ps = true ∧ PyData.depthAll ps ≤ 20 ∧ PyData.eqvAll ps ps = true ∧ ps.length = ds.length
  | [], _ => ⟨[], rfl, rfl, Nat.zero_le _, rfl, rfl⟩
  | d :: ds, h => by
    obtain ⟨ps, e, a, b, c, l⟩ := toPs_ok (ds := ds) fun x hx => h x (List.mem_cons_of_mem _ hx)
    have hd := h d List.mem_cons_self
    unfold okD at hd
    cases q : toP0 d with
    | none => rw [q] at hd; cases hd
    | some p =>
      rw [q] at hd
      simp only [Bool.and_eq_true, decide_eq_true_eq] at hd
      refine ⟨p :: ps, ?_, ?_, ?_, ?_, by simp [l]⟩
      · show (match toP0 d, toPs ds with | some p, some ps => some (p :: ps) | _, _ => none) = _
        rw [q, e]
      · show (PyData.canLay0 p && PyData.canLayAll0 ps) = true
        rw [hd.1, a]
        rfl
      · show max (PyData.depth p) (PyData.depthAll ps) ≤ 20
        omega
      · show (PyData.eqv p p && PyData.eqvAll ps ps) = true
        rw [hd.2.2, c]
        rfl
theorem shapedT {ps : List PyData} (a : PyData.canLayAll0 ps = true) (b : PyData.depthAll ps ≤ 20) : SeqAt.shaped (.tuple ps) = true := by
  unfold SeqAt.shaped
  rw [Bool.and_eq_true]
  refine ⟨a, decide_eq_true ?_⟩
  show PyData.depthAll ps + 1 ≤ 64
  omega
theorem shapedL {ps : List PyData} (a : PyData.canLayAll0 ps = true) (b : PyData.depthAll ps ≤ 20) : SeqAt.shaped (.list ps) = true := by
  unfold SeqAt.shaped
  rw [Bool.and_eq_true]
  refine ⟨a, decide_eq_true ?_⟩
  show PyData.depthAll ps + 1 ≤ 64
  omega
theorem toP0_tup {ds : List D} {ps : List PyData} (e : toPs ds = some ps) : toP0 (.tup ds) = some (.tuple ps) := by
  show (toPs ds).map PyData.tuple = _
  rw [e]
  rfl
theorem toP0_lst {ds : List D} {ps : List PyData} (e : toPs ds = some ps) : toP0 (.lst ds) = some (.list ps) := by
  show (toPs ds).map PyData.list = _
  rw [e]
  rfl
theorem toP_tup {cs : Cells} {ds : List D} {ps : List PyData} (e : toPs ds = some ps) : toP cs (.tup ds) = some (.tuple ps) := toP0_tup e
theorem toP_lst {cs : Cells} {ds : List D} {ps : List PyData} (e : toPs ds = some ps) : toP cs (.lst ds) = some (.list ps) := toP0_lst e
theorem eqP_of {cs : Cells} {x y : D} {p q : PyData} (hx : toP cs x = some p) (hy : toP cs y = some q) (sp : SeqAt.shaped p = true) (sq : SeqAt.shaped q = true) : eqP cs x y = some (PyData.eqv p q) := by
  unfold eqP
  rw [hx, hy]
  dsimp only
  rw [sp, sq]
  rfl
theorem eqB_tup {cs : Cells} {xs ys : List D} : eqB cs (.tup xs) (.tup ys) = eqP cs (.tup xs) (.tup ys) := rfl
theorem eq_tup {cs : Cells} {ds : List D} (h : ∀ d ∈ ds, okD d = true) : eqB cs (.tup ds) (.tup ds) = some true := by
  obtain ⟨ps, e, a, b, c, _⟩ := toPs_ok h
  rw [eqB_tup, eqP_of (p := .tuple ps) (q := .tuple ps) (toP_tup e) (toP_tup e) (shapedT a b) (shapedT a b), PyData.eqv, c]
theorem eq_cel {cs : Cells} {n : Nat} {ds : List D} (hn : celL cs n = some ds) (h : ∀ d ∈ ds, okD d = true) : eqB cs (.cel n) (.lst ds) = some true := by
  obtain ⟨ps, e, a, b, c, _⟩ := toPs_ok h
  have hc : toP cs (.cel n) = some (.list ps) := by
    show (match celL cs n with | some xs => (toPs xs).map PyData.list | none => none) = _
    rw [hn]
    show (toPs ds).map PyData.list = _
    rw [e]
    rfl
  show eqP cs (.cel n) (.lst ds) = _
  rw [eqP_of hc (toP_lst e) (shapedL a b) (shapedL a b), PyData.eqv, c]
theorem eq_nil {cs : Cells} {d : D} {ds : List D} (h : ∀ x ∈ d :: ds, okD x = true) : eqB cs (.tup (d :: ds)) (.tup []) = some false := by
  obtain ⟨ps, e, a, b, c, l⟩ := toPs_ok h
  cases ps with
  | nil => cases l
  | cons p ps => rw [eqB_tup, eqP_of (p := .tuple (p :: ps)) (q := .tuple []) (toP_tup e) (toP_tup (ps := []) rfl) (shapedT a b) rfl, PyData.eqv, PyData.eqvAll]
/-! repr -/
def rp (d : D) : Str := match dRepr [] [d] with
  | some (.str r) => r
  | _ => ""
def okR (d : D) : Bool := match dRepr [] [d] with
  | some (.str r) => PyData.strOk r
  | _ => false
theorem repr_ok {cs : Cells} {d : D} (hd : datD d = true) (h : okR d = true) : dRepr cs [d] = some (.str (rp d)) ∧ PyData.strOk (rp d) = true := by
  have e : dRepr cs [d] = dRepr [] [d] := by
    cases d <;> first | (cases hd; done) | rfl
  rw [e]
  unfold okR at h
  unfold rp
  split at h
  · rename_i r q
    rw [q]
    exact ⟨rfl, h⟩
  · cases h
theorem okR_odds : odds.all okR = true := by decide +kernel
theorem datD_odds : odds.all datD = true := by decide +kernel
theorem isNm_odds : odds.all (fun d => !isNm d) = true := by decide +kernel
theorem okR_nm {x : Str} (h : nmS x = true) : okR (.str x) = true := by
  have hl : (reprText x).length ≤ 10 * x.length + 2 := StrLaws.reprText_len x fun c hc => by
    have := nmS_all h c hc
    exact Nat.lt_of_le_of_lt this.2 (by decide)
  have h8 := nmS_len h
  have e : dRepr [] [.str x] = some (.str (reprText x)) := by
    show (if fitB (reprText x).length = true then some (D.str (reprText x)) else none) = _
    rw [if_pos]
    exact decide_eq_true (by omega)
  unfold okR
  rw [e]
  exact strOk_repr h
theorem okD_str {x : Str} (h : PyData.strOk x = true) : okD (.str x) = true := by
  show (PyData.strOk x && (decide (0 ≤ 20) && PyData.eqv (.str x) (.str x))) = true
  rw [h]
  simp [PyData.eqv]
end F

/-! the shared helpers, what they answer (6) -/
namespace F
open PySem L2
local macro_rules | `(tactic| walk_at "w") => `(tactic| simp only [w_run, w_var, w_c, w_1, w_2, w_N, w_bV, w_bNot, w_bOr, w_bAnd, w_xOr, w_xAnd, w_xNot, w_xIf, w_aNil, w_aCons, w_aStar, w_tup, w_lst, w_tupS, w_lstS, w_lstC, w_listC, w_oNone, w_oSome, w_sl, w_join, w_call, w_chk, w_at, w_lenO, w_chain, w_tru, w_inO, w_xf, w_isX, w_eq, w_lc, w_iSeq, w_iEnu, w_iStr, w_iRng, w_yes,
  s_seq, s_nx, s_set, s_drop, s_ret, s_retN, s_if, s_asg, s_par2, s_par3, s_raise, s_ownC, s_ownL, s_mutO, s_own, s_addO, s_fldO, s_for, s_setI, s_turn,
  ex_some, ex_if, ex_none, ex_bl, ex_int, ex_str, x_addI, x_addS, x_addT, x_addL, x_sub, x_mul, x_mod, x_div, x_pow, x_lt, x_le, x_gt, x_ge, x_neg, x_int, x_abs, x_min, x_max, x_lenS, x_lenL, x_lenW, x_lenT, x_eqS, x_neS, x_eqI, x_neI, x_isN, x_notN, x_ixL, x_ixW, x_ixT, x_ixS, x_tupL, x_tupT, x_frzL, x_frzT, x_frzW, x_enuL, x_seqL, x_seqT, x_gN, x_g2,
  List.getElem?_cons_zero, List.getElem?_cons_succ, List.set_cons_zero, List.set_cons_succ, List.length_nil, wipeL, decide_eq_true_eq, Bool.not_eq_true', decide_eq_false_iff_not, true_and, and_true])
section
variable {cs : Cells} {l : Loc} {P : Fl → Cells → Prop} {g : XG} {b : XS} {fe : XE}
theorem s_forD : wpS (sForD fe g b l cs) P ↔ wp (fe l) cs (fun d cs' => wpS (forD g b d l cs') P) (fun x cs' => P (.ex x l) cs') := wpS_onE
end
theorem for_find {body : D → Loc → Cells → SO} {p : D → Bool} {I : Loc → Prop} {cs : Cells} {P : Fl → Cells → Prop} : ∀ {ds : List D} {l : Loc} (h0 : I l)
    (go : ∀ d ∈ ds, p d = false → ∀ l, I l → wpS (body d l cs) fun fl cs' => ∃ l', fl = .nx l' ∧ I l' ∧ cs' = cs)
    (hit : ∀ d, ds.find? p = some d → ∀ l, I l → wpS (body d l cs) fun fl cs' => match fl with
      | .nx _ => False
      | .ct _ => False
      | .bk _ => False
      | r => P r cs')
    (fin : ds.find? p = none → ∀ l, I l → P (.nx l) cs), wpS (forL body ds l cs) P
  | [], l, h0, _, _, fin => fin rfl l h0
  | d :: ds, l, h0, go, hit, fin => by
    unfold forL
    cases q : p d with
    | true =>
      have h := hit d (by rw [List.find?_cons, q]) l h0
      cases e : body d l cs with
      | no => rw [e] at h; exact h.elim
      | go fl cs' =>
        rw [e] at h
        cases fl with
        | nx l' => exact h.elim
        | ct l' => exact h.elim
        | bk l' => exact h.elim
        | ret d => exact h
        | ex x l' => exact h
    | false =>
      have h := go d List.mem_cons_self q l h0
      have ef : (d :: ds).find? p = ds.find? p := by rw [List.find?_cons, q]
      cases e : body d l cs with
      | no => rw [e] at h; exact h.elim
      | go fl cs' =>
        rw [e] at h
        obtain ⟨l', rfl, hi, rfl⟩ := h
        exact for_find hi (fun x hx => go x (List.mem_cons_of_mem _ hx)) (fun x hx => hit x (by rw [ef]; exact hx)) (fun hx => fin (by rw [ef]; exact hx))
theorem for_findI {body : D → Loc → Cells → SO} {p : D → Bool} {I : Loc → Prop} {cs : Cells} {P : Fl → Cells → Prop} {n : Nat} {ds : List D} (hc : celL cs n = some ds)
    (go : ∀ d ∈ ds, p d = false → ∀ l, I l → wpS (body d l cs) fun fl cs' => ∃ l', fl = .nx l' ∧ I l' ∧ cs' = cs)
    (hit : ∀ d, ds.find? p = some d → ∀ l, I l → wpS (body d l cs) fun fl cs' => match fl with
      | .nx _ => False
      | .ct _ => False
      | .bk _ => False
      | r => P r cs')
    (fin : ds.find? p = none → ∀ l, I l → P (.nx l) cs) : ∀ (k i : Nat) (l : Loc), i + k = ds.length → (∀ d ∈ ds.take i, p d = false) → I l → wpS (forI body n (k + 1) i l cs) P := by
  intro k
  induction k with
  | zero =>
    intro i l hk hp h0
    unfold forI
    rw [hc]
    dsimp only
    rw [List.getElem?_eq_none (by omega)]
    refine fin ?_ l h0
    rw [List.find?_eq_none]
    intro d hd
    rw [List.take_of_length_le (by omega)] at hp
    rw [hp d hd]
    decide
  | succ k ih =>
    intro i l hk hp h0
    unfold forI
    rw [hc]
    dsimp only
    have hi : i < ds.length := by omega
    rw [List.getElem?_eq_getElem hi]
    dsimp only
    cases q : p ds[i] with
    | true =>
      have f : ds.find? p = some ds[i] := by
        rw [List.find?_eq_some_iff_getElem]
        refine ⟨q, i, hi, rfl, fun j hj => ?_⟩
        have hj2 : j < ds.length := by omega
        have := hp ds[j] (by
          rw [List.mem_take_iff_getElem]
          exact ⟨j, by omega, rfl⟩)
        rw [this]
        rfl
      have h := hit _ f l h0
      cases e : body ds[i] l cs with
      | no => rw [e] at h; exact h.elim
      | go fl cs' =>
        rw [e] at h
        cases fl with
        | nx l' => exact h.elim
        | ct l' => exact h.elim
        | bk l' => exact h.elim
        | ret d => exact h
        | ex x l' => exact h
    | false =>
      have h := go ds[i] (List.getElem_mem hi) q l h0
      cases e : body ds[i] l cs with
      | no => rw [e] at h; exact h.elim
      | go fl cs' =>
        rw [e] at h
        obtain ⟨l', rfl, hI, rfl⟩ := h
        refine ih (i + 1) l' (by omega) (fun d hd => ?_) hI
        rw [List.take_succ, List.getElem?_eq_getElem hi] at hd
        rcases List.mem_append.mp hd with hd | hd
        · exact hp d hd
        · simp at hd
          rw [hd]
          exact q
def h_look_partsD (tb : Tb) : XS := sSeq (sForD (xVar 0) (gN 1) (sIf (bNot (bV (xCall (kChk ([] : List Str).length (H_is_part tb)) (aCons (xVar 1) aNil) aNil))) (sRaise "BadName" ["name"] (aCons (xVar 1) aNil)) sNx)) (h_look_parts_1 tb)
def H_look_partsD (tb : Tb) : List D → List D → EM D := fun ds es => match (arrP 1 0 []) ds es with
  | some bs => fnB 2 (h_look_partsD tb) bs
  | none => no
/-- a sequence: a tuple, or a list that may change -/
def SeqD (cs : Cells) (d : D) (fs : List D) : Prop := d = .tup fs ∨ ∃ n, d = .cel n ∧ celL cs n = some fs
theorem SeqD.seq {cs : Cells} {d : D} {fs : List D} (h : SeqD cs d fs) : seqOf cs d = some fs := by
  rcases h with rfl | ⟨n, rfl, e⟩
  · rfl
  · exact e
theorem look_partsD_wp {tb : Tb} {cs : Cells} {d : D} {ds : List D} {Q : D → Cells → Prop} {E : Exn → Cells → Prop} (hs : SeqD cs d ds) (hd : ∀ d ∈ ds, datD d = true) (h : match ds.find? (fun d => !isPt d) with | some d => E (badX d) cs | none => Q (.tup ds) cs) : wp (H_look_partsD tb [d] []) cs Q E := by
  show wp (runB (h_look_partsD tb) [.val d, .emp]) cs _ _
  unfold h_look_partsD h_look_parts_1
  rw [w_run, s_seq, s_forD, w_var]
  have go : ∀ x ∈ ds, (fun d => !isPt d) x = false → ∀ l, (∃ s, l = [Sl.val d, s]) → wpS (turn (gN 1) (sIf (bNot (bV (xCall (kChk ([] : List Str).length (H_is_part tb)) (aCons (xVar 1) aNil) aNil))) (sRaise "BadName" ["name"] (aCons (xVar 1) aNil)) sNx) x l cs) fun fl cs' => ∃ l', fl = .nx l' ∧ (∃ s, l' = [Sl.val d, s]) ∧ cs' = cs := by
    rintro x hx p l ⟨s, rfl⟩
    have p : isPt x = true := by simpa using p
    walk_at "w"
    rw [wp_eq (is_part_eq (hd x hx))]
    walk_at "w"
    rw [p]
    exact ⟨_, rfl, _, rfl⟩
  have hit : ∀ x, ds.find? (fun d => !isPt d) = some x → ∀ l, (∃ s, l = [Sl.val d, s]) → wpS (turn (gN 1) (sIf (bNot (bV (xCall (kChk ([] : List Str).length (H_is_part tb)) (aCons (xVar 1) aNil) aNil))) (sRaise "BadName" ["name"] (aCons (xVar 1) aNil)) sNx) x l cs) fun fl cs' => match fl with
      | .nx _ => False
      | .ct _ => False
      | .bk _ => False
      | r => (fun fl cs' => match fl with
        | .nx l' => wpS (sRet (xN dTuple (aCons (xVar 0) aNil)) l' cs') fun fl cs' => match fl with
          | .ret d => Q d cs'
          | .nx _ => Q .non cs'
          | .ex x _ => E x cs'
          | _ => False
        | .ret d => Q d cs'
        | .ex x _ => E x cs'
        | _ => False) r cs' := by
    rintro x hx l ⟨s, rfl⟩
    have hm := List.mem_of_find?_eq_some hx
    have p : isPt x = false := by simpa using List.find?_some hx
    rw [hx] at h
    walk_at "w"
    rw [wp_eq (is_part_eq (hd x hm))]
    walk_at "w"
    rw [p]
    exact ⟨rfl, h⟩
  have fin : ds.find? (fun d => !isPt d) = none → ∀ l, (∃ s, l = [Sl.val d, s]) → wpS (sRet (xN dTuple (aCons (xVar 0) aNil)) l cs) fun fl cs' => match fl with
      | .ret d => Q d cs'
      | .nx _ => Q .non cs'
      | .ex x _ => E x cs'
      | _ => False := by
    rintro hx l ⟨s, rfl⟩
    rw [hx] at h
    walk_at "w"
    refine ⟨.tup ds, ?_, h⟩
    show (seqOf cs d).map D.tup = _
    rw [hs.seq]
    rfl
  show wpS (forD _ _ d [.val d, .emp] cs) _
  rcases hs with rfl | ⟨n, rfl, e⟩
  · refine wpS_imp (for_find (I := fun l => ∃ s, l = [.val (.tup ds), s]) (P := fun fl cs' => match fl with
        | .nx l' => wpS (sRet (xN dTuple (aCons (xVar 0) aNil)) l' cs') fun fl cs' => match fl with
          | .ret d => Q d cs'
          | .nx _ => Q .non cs'
          | .ex x _ => E x cs'
          | _ => False
        | .ret d => Q d cs'
        | .ex x _ => E x cs'
        | _ => False) ⟨_, rfl⟩ go hit fin) fun fl cs' z => ?_
    cases fl <;> exact z
  · show wpS (match celL cs n with | some xs => forI _ n (xs.length + 1) 0 _ cs | none => SO.no) _
    rw [e]
    refine wpS_imp (for_findI (I := fun l => ∃ s, l = [.val (.cel n), s]) (P := fun fl cs' => match fl with
        | .nx l' => wpS (sRet (xN dTuple (aCons (xVar 0) aNil)) l' cs') fun fl cs' => match fl with
          | .ret d => Q d cs'
          | .nx _ => Q .non cs'
          | .ex x _ => E x cs'
          | _ => False
        | .ret d => Q d cs'
        | .ex x _ => E x cs'
        | _ => False) e go hit fin ds.length 0 _ (by omega) (fun d hd => by simp at hd) ⟨_, rfl⟩) fun fl cs' z => ?_
    cases fl <;> exact z
theorem look_onceL_wp {cs : Cells} {ws : List Str} {Q : D → Cells → Prop} {E : Exn → Cells → Prop} (hl : ws.length ≤ 1000) (h : match dupS [] ws with | some x => E (twiceX (.str x)) cs | none => Q .non cs) : wp (H_look_once [.lst (ws.map D.str)] []) cs Q E := by
  show wp (runB h_look_once [.val (.lst (ws.map D.str)), .emp, .emp]) cs _ _
  unfold h_look_once h_look_once_1
  walk_at "w"
  refine for_inv (fun i l cs' => cs' = cs ∧ (∃ s, l = [.val (.lst (ws.map D.str)), .own (.set ((ws.take i).map Sum.inr)), s]) ∧ dupS [] ws = dupS (ws.take i) (ws.drop i)) ⟨rfl, ⟨_, rfl⟩, rfl⟩ ?_ ?_
  · rintro i d l cs1 hi ⟨rfl, ⟨s, rfl⟩, hc⟩
    rw [List.getElem?_map] at hi
    cases hx : ws[i]? with
    | none => rw [hx] at hi; cases hi
    | some x =>
      rw [hx] at hi
      cases hi
      have st := dupS_at (seen := []) hx hc
      walk_at "w"
      simp only [keyOf]
      rw [hasK_s]
      by_cases z : x ∈ ws.take i
      · simp only [z, decide_true, bne_self_eq_false, Bool.true_bne, Bool.not_false, if_true]
        rw [if_pos z] at st
        rw [st] at h
        exact ⟨rfl, h⟩
      · simp only [z, decide_false, Bool.false_bne, Bool.false_eq_true, if_false]
        rw [if_neg z] at st
        walk_at "w"
        refine ⟨?_, ⟨.val (.str x), ?_⟩, st⟩
        · simp; omega
        · unfold addK
          rw [hasK_s, decide_eq_false z, if_neg Bool.false_ne_true, List.take_succ, hx]
          simp
  · rintro l cs1 ⟨rfl, ⟨s, rfl⟩, hc⟩
    rw [List.length_map, List.drop_length] at hc
    rw [hc] at h
    exact h
end F

/-! the shared helpers, what they answer (7) -/
namespace F
open PySem L2
local macro_rules | `(tactic| walk_at "w") => `(tactic| simp only [w_run, w_var, w_c, w_1, w_2, w_N, w_bV, w_bNot, w_bOr, w_bAnd, w_xOr, w_xAnd, w_xNot, w_xIf, w_aNil, w_aCons, w_aStar, w_tup, w_lst, w_tupS, w_lstS, w_lstC, w_listC, w_oNone, w_oSome, w_sl, w_join, w_call, w_chk, w_at, w_lenO, w_chain, w_tru, w_inO, w_xf, w_isX, w_eq, w_lc, w_iSeq, w_iEnu, w_iStr, w_iRng, w_yes,
  s_seq, s_nx, s_set, s_drop, s_ret, s_retN, s_if, s_asg, s_par2, s_par3, s_raise, s_ownC, s_ownL, s_mutO, s_own, s_addO, s_fldO, s_for, s_setI, s_turn,
  ex_some, ex_if, ex_none, ex_bl, ex_int, ex_str, x_addI, x_addS, x_addT, x_addL, x_sub, x_mul, x_mod, x_div, x_pow, x_lt, x_le, x_gt, x_ge, x_neg, x_int, x_abs, x_min, x_max, x_lenS, x_lenL, x_lenW, x_lenT, x_eqS, x_neS, x_eqI, x_neI, x_isN, x_notN, x_ixL, x_ixW, x_ixT, x_ixS, x_tupL, x_tupT, x_frzL, x_frzT, x_frzW, x_enuL, x_seqL, x_seqT, x_gN, x_g2,
  List.getElem?_cons_zero, List.getElem?_cons_succ, List.set_cons_zero, List.set_cons_succ, List.length_nil, wipeL, decide_eq_true_eq, Bool.not_eq_true', decide_eq_false_iff_not, true_and, and_true])
inductive Due where
  | fine | bad (d : D) | twice (x : Str) | many
def strD : D → Str
  | .str x => x
  | _ => ""
theorem gd {a : Bool} {n : Nat} (h : a = true) (k : n < 900) : (a && decide (n < 900)) = true := by rw [h, decide_eq_true k]; rfl
abbrev manyX : Exn := mkX "TooMany" ["limit"] [.int 3]
def Ends1 (Q : D → Cells → Prop) (E : Exn → Cells → Prop) (cs : Cells) (h : D) : Due → Prop
  | .fine => Q h cs
  | .bad d => E (badX d) cs
  | .twice x => E (twiceX (.str x)) cs
  | .many => E manyX cs
theorem strs_of_parts {fs : List D} (h : ∀ d ∈ fs, isPt d = true) : fs = (fs.map strD).map D.str := by
  rw [List.map_map]
  refine (List.map_id' fs).symm.trans (List.map_congr_left fun d hd => ?_)
  have := h d hd
  cases d <;> first | rfl | cases this
theorem numb_get : ∀ {xs : List D} {k i : Nat}, (numbered k xs)[i]? = (xs[i]?).map fun d => D.tup [.int ((k + i : Nat) : Int), d]
  | [], _, _ => rfl
  | x :: xs, k, 0 => rfl
  | x :: xs, k, i + 1 => by
    show (numbered (k + 1) xs)[i]? = _
    rw [numb_get]
    show _ = (xs[i]?).map _
    rw [show k + 1 + i = k + (i + 1) by omega]
theorem x_inL {cs : Cells} {x : Str} {ws : List Str} {Q : D → Prop} : (∃ r, dIn cs (.str x) (.lst (ws.map D.str)) = some r ∧ Q r) ↔ Q (.bl (decide (x ∈ ws))) := by
  have e : dIn cs (.str x) (.lst (ws.map D.str)) = some (.bl (decide (x ∈ ws))) := by
    show Option.map D.bl (if (true && (ws.map D.str).all flatD) = true then some ((ws.map D.str).any fun y => eqF y (.str x)) else none) = _
    have h1 : (ws.map D.str).all flatD = true := by
      rw [List.all_map, List.all_eq_true]
      intro w _
      rfl
    have h2 : ((ws.map D.str).any fun y => eqF y (.str x)) = decide (x ∈ ws) := by
      rw [List.any_map, Bool.eq_iff_iff, List.any_eq_true, decide_eq_true_eq]
      constructor
      · rintro ⟨y, hy, e⟩
        have : (y == x) = true := e
        rw [eq_of_beq this] at hy
        exact hy
      · intro h
        exact ⟨x, h, beq_self_eq_true x⟩
    rw [h1, h2]
    rfl
  rw [e]
  exact ex_some
theorem cut_take {xs : List D} {k : Nat} : cutD xs none (some (k : Int)) = xs.take k := by
  unfold cutD
  rw [HT.sIx_none, HT.sIx_nat]
  show (xs.drop 0).take (min k xs.length - 0) = _
  rw [List.drop_zero, Nat.sub_zero]
  rcases Nat.le_total k xs.length with h | h
  · rw [Nat.min_eq_left h]
  · rw [Nat.min_eq_right h, List.take_length, List.take_of_length_le h]
theorem x_slL {cs : Cells} {xs : List D} {a b : Option Int} {Q : D → Prop} : (∃ r, slD (.lst xs) a b cs = some r ∧ Q r) ↔ Q (.lst (cutD xs a b)) := ex_some
def dueD : Due → D
  | .fine => .tup []
  | .bad d => .tup [.str "BadName", .str (rp d)]
  | .twice x => .tup [.str "Twice", .str (rp (.str x))]
  | .many => .tup [.str "TooMany", .str "3"]
def gdD (d : D) : Bool := datD d && (okD d && okR d)
theorem gdD_nm {x : Str} (h : nmS x = true) : gdD (.str x) = true := by
  unfold gdD
  rw [okD_nm h, okR_nm h]
  rfl
theorem gdD_odd {d : D} (h : d ∈ odds) : gdD d = true := by
  unfold gdD
  rw [List.all_eq_true.mp datD_odds d h, List.all_eq_true.mp okD_odds d h, List.all_eq_true.mp okR_odds d h]
  rfl
theorem gdD.dat {d : D} (h : gdD d = true) : datD d = true := (Bool.and_eq_true_iff.mp h).1
theorem gdD.ok {d : D} (h : gdD d = true) : okD d = true := (Bool.and_eq_true_iff.mp (Bool.and_eq_true_iff.mp h).2).1
theorem gdD.rep {d : D} (h : gdD d = true) : okR d = true := (Bool.and_eq_true_iff.mp (Bool.and_eq_true_iff.mp h).2).2
theorem x_rep {cs : Cells} {d : D} {Q : D → Prop} (h : gdD d = true) : (∃ r, dRepr cs [d] = some r ∧ Q r) ↔ Q (.str (rp d)) := by
  rw [(repr_ok (gdD.dat h) (gdD.rep h)).1]
  exact ex_some
def oD : Option Str → D
  | none => .non
  | some x => .str x
theorem dupS_none : ∀ {ws seen : List Str}, dupS seen ws = none ↔ ws.Nodup ∧ ∀ x ∈ ws, x ∉ seen
  | [], _ => ⟨fun _ => ⟨List.nodup_nil, fun x h => by simp at h⟩, fun _ => rfl⟩
  | w :: ws, seen => by
    show (if w ∈ seen then some w else dupS (seen ++ [w]) ws) = none ↔ _
    by_cases z : w ∈ seen
    · rw [if_pos z]
      exact ⟨fun h => (nomatch h), fun h => absurd z (h.2 w List.mem_cons_self)⟩
    · rw [if_neg z, dupS_none, List.nodup_cons]
      constructor
      · rintro ⟨h1, h2⟩
        refine ⟨⟨fun hw => h2 w hw (by simp), h1⟩, fun x hx => ?_⟩
        rcases List.mem_cons.mp hx with rfl | hx
        · exact z
        · exact fun hs => h2 x hx (by simp [hs])
      · rintro ⟨⟨h0, h1⟩, h2⟩
        refine ⟨h1, fun x hx hs => ?_⟩
        rcases List.mem_append.mp hs with hs | hs
        · exact h2 x (List.mem_cons_of_mem _ hx) hs
        · simp at hs
          rw [hs] at hx
          exact h0 hx
theorem map_strD (ws : List Str) : (ws.map D.str).map strD = ws := by
  rw [List.map_map]
  exact (List.map_congr_left fun x _ => rfl).trans (List.map_id ws)
theorem toPs_strs : ∀ ws : List Str, toPs (ws.map D.str) = some (ws.map PyData.str)
  | [] => rfl
  | w :: ws => by
    show (match toP0 (.str w), toPs (ws.map D.str) with | some p, some ps => some (p :: ps) | _, _ => none) = _
    rw [toPs_strs ws]
    rfl
theorem eqv_strs : ∀ xs ys : List Str, PyData.eqvAll (xs.map PyData.str) (ys.map PyData.str) = decide (xs = ys)
  | [], [] => by simp [PyData.eqvAll]
  | [], y :: ys => by simp [PyData.eqvAll]
  | x :: xs, [] => by simp [PyData.eqvAll]
  | x :: xs, y :: ys => by
    show PyData.eqvAll (.str x :: xs.map PyData.str) (.str y :: ys.map PyData.str) = _
    rw [PyData.eqvAll, eqv_strs xs ys, PyData.eqv]
    by_cases h1 : x = y <;> by_cases h2 : xs = ys <;> simp [h1, h2]
theorem lay_strs {ws : List Str} (h : ∀ x ∈ ws, nmS x = true) : PyData.canLayAll0 (ws.map PyData.str) = true := by
  induction ws with
  | nil => rfl
  | cons x ws ih =>
    show (PyData.strOk x && PyData.canLayAll0 (ws.map PyData.str)) = true
    rw [strOk_nm (h x List.mem_cons_self), ih fun y hy => h y (List.mem_cons_of_mem _ hy)]
    rfl
theorem dep_strs {ws : List Str} : PyData.depthAll (ws.map PyData.str) = 0 := by
  induction ws with
  | nil => rfl
  | cons x ws ih =>
    show max 0 (PyData.depthAll (ws.map PyData.str)) = 0
    rw [ih]
    rfl
theorem datD_o {b : Option Str} : datD (oD b) = true := by cases b <;> rfl
theorem dat_strs {ws : List Str} : ∀ d ∈ ws.map D.str, datD d = true := fun d hd => by
  obtain ⟨x, _, rfl⟩ := List.mem_map.mp hd
  rfl
theorem ne_o {cs : Cells} {b : Option Str} {Q : D → Prop} : (∃ r, dNe cs (oD b) (oD b) = some r ∧ Q r) ↔ Q (.bl false) := by
  cases b with
  | none => exact ex_some
  | some x => exact x_neS.trans (by rw [decide_eq_true rfl]; exact Iff.rfl)
theorem ok_strs {ws : List Str} (h : ∀ x ∈ ws, nmS x = true) : ∀ d ∈ ws.map D.str, okD d = true := fun d hd => by
  obtain ⟨x, hx, rfl⟩ := List.mem_map.mp hd
  exact okD_nm (h x hx)
theorem ne_t {cs : Cells} {fs : List D} {Q : D → Prop} (h : ∀ d ∈ fs, okD d = true) : (∃ r, dNe cs (.tup fs) (.tup fs) = some r ∧ Q r) ↔ Q (.bl false) := by
  show (∃ r, (eqB cs (.tup fs) (.tup fs)).map _ = some r ∧ Q r) ↔ _
  rw [eq_tup h]
  exact ex_some
theorem ne_nilL {cs : Cells} {ws : List Str} {Q : D → Prop} (h : ∀ x ∈ ws, nmS x = true) : (∃ r, dNe cs (.lst (ws.map D.str)) (.lst []) = some r ∧ Q r) ↔ Q (.bl (!decide (ws = []))) := by
  show (∃ r, (eqP cs (.lst (ws.map D.str)) (.lst [])).map _ = some r ∧ Q r) ↔ _
  rw [eqP_of (toP_lst (toPs_strs ws)) (toP_lst (ps := []) rfl) (shapedL (lay_strs h) (by rw [dep_strs]; decide)) (by decide +kernel), PyData.eqv]
  rw [show ([] : List PyData) = ([] : List Str).map PyData.str from rfl, eqv_strs]
  exact ex_some
theorem isi_t {tb : Tb} {cs : Cells} {fs : List D} {Q : D → Prop} : (∃ r, dIsi tb cs [.tup fs, .ty "tuple"] = some r ∧ Q r) ↔ Q (.bl true) := by
  have e : dIsi tb cs [.tup fs, .ty "tuple"] = some (.bl true) := by
    show (isiB "tuple" "tuple").map D.bl = _
    rfl
  rw [e]
  exact ex_some
section
variable {cs : Cells} {l : Loc} {P : Fl → Cells → Prop} {T : Te} {b : XS} {cl : List Clz} {i : Nat}
theorem s_frz {xs : List D} (h : l[i]? = some (.own (.lst xs))) : wpS (sFrz i l cs) P ↔ P (.nx (l.set i (.val (.lst xs)))) cs := by
  unfold sFrz
  rw [h]
  exact Iff.rfl
theorem s_try : wpS (sTry T b cl l cs) P ↔ wpS (b l cs) fun fl cs' => match fl with
    | .ex x l' => wpS (hand T x l' cs' cl) P
    | r => P r cs' := by
  unfold sTry
  cases b l cs with
  | no => exact Iff.rfl
  | go fl cs' => cases fl <;> exact Iff.rfl
theorem s_hit {x : Exn} {t : Tag} {su : XS} {r : List Clz} (h : T.m x.c t = some true) (hi : i < l.length) : wpS (hand T x l cs ((t, i, su) :: r)) P ↔ wpS (su (l.set i (.exn x)) cs) fun fl cs' => match fl with
    | .nx l => (l.set i .emp).any isExn = false ∧ P (.nx (l.set i .emp)) cs'
    | .bk l => (l.set i .emp).any isExn = false ∧ P (.bk (l.set i .emp)) cs'
    | .ct l => (l.set i .emp).any isExn = false ∧ P (.ct (l.set i .emp)) cs'
    | .ret d => P (.ret d) cs'
    | _ => False := by
  rw [hand, h]
  dsimp only
  rw [if_pos hi]
  cases su (l.set i (.exn x)) cs with
  | no => exact Iff.rfl
  | go fl cs' =>
    cases fl with
    | ret d => exact Iff.rfl
    | ex x l => exact Iff.rfl
    | _ l =>
      show wpS (if (l.set i .emp).any isExn = true then .no else .go _ cs') P ↔ _ ∧ _
      rw [wpS_ite]
      cases (l.set i .emp).any isExn with
      | true => exact ⟨fun h => h.elim, fun h => absurd h.1 (by decide)⟩
      | false => exact ⟨fun h => ⟨rfl, h⟩, fun h => h.2⟩
theorem s_skip {x : Exn} {t : Tag} {su : XS} {r : List Clz} (h : T.m x.c t = some false) : wpS (hand T x l cs ((t, i, su) :: r)) P ↔ wpS (hand T x l cs r) P := by
  rw [hand, h]
end
theorem dupS_mem : ∀ {ws seen : List Str} {x : Str}, dupS seen ws = some x → x ∈ ws
  | [], _, _, h => (nomatch h)
  | w :: ws, seen, x, h => by
    have h : (if w ∈ seen then some w else dupS (seen ++ [w]) ws) = some x := h
    split at h
    · cases h; exact List.mem_cons_self
    · exact List.mem_cons_of_mem _ (dupS_mem h)
def dueL : Due → List D
  | .fine => []
  | .bad d => [.str "BadName", .str (rp d)]
  | .twice x => [.str "Twice", .str (rp (.str x))]
  | .many => [.str "TooMany", .str "3"]
theorem dueD_L (u : Due) : dueD u = .tup (dueL u) := by cases u <;> rfl
theorem x_neCel {cs : Cells} {n : Nat} {fs : List D} {Q : D → Prop} (hc : celL cs n = some fs) (h : ∀ d ∈ fs, okD d = true) : (∃ r, dNe cs (.cel n) (.lst fs) = some r ∧ Q r) ↔ Q (.bl false) := by
  show (∃ r, (eqB cs (.cel n) (.lst fs)).map _ = some r ∧ Q r) ↔ _
  rw [eq_cel hc h]
  exact ex_some
theorem mut_wp {fo : XE} {fa : XA} {l : Loc} {cs : Cells} {g : List D → List D → Option (List D)} {Q : D → Cells → Prop} {E : Exn → Cells → Prop} : wp (xMut g fo fa l) cs Q E ↔ wp (fo l) cs (fun o cs1 => ∃ u, isLC o cs1 = some u ∧ wp (fa l) cs1 (fun ds cs2 => wp (updC o fun xs => g xs ds) cs2 Q E) E) E := by
  unfold xMut
  simp only [wp_bd, wp_rd]
theorem upd_wp {n : Nat} {h : List D → Option (List D)} {cs : Cells} {Q : D → Cells → Prop} {E : Exn → Cells → Prop} {xs ys : List D} (e1 : celL cs n = some xs) (e2 : h xs = some ys) : wp (updC (.cel n) h) cs Q E ↔ Q .non (cs.set n (.lst ys)) := by
  unfold wp updC
  dsimp only
  rw [e1]
  dsimp only
  rw [e2]
def Post : Fl → Cells → Prop := fun fl _ => fl = .ret (.bl true)
theorem repr3 {cs : Cells} : dRepr cs [.int 3] = some (.str "3") := by
  show (if (decide ((3 : Int).natAbs.log2 < 1920) && fitB (toString (3 : Int) : Str).length) = true then some (D.str (toString (3 : Int))) else none) = _
  rw [if_pos (by decide +kernel)]
  exact congrArg some (congrArg D.str (by decide +kernel))
theorem gd_up : gdD (.str "up") = true := gdD_nm (by decide +kernel)
end F

/-! the second family of helpers (_law_bag, 1299721, 15485867, 4096) -/
namespace F
open PySem L2
def h2_law_bag_2 : XS :=
 (sRet (xLstC (aCons (xVar 3) (aCons (x2 dAdd (x2 dAdd (x2 dMul (x2 dMod (xN dInt (aCons (xVar 2) aNil)) (xC (.int 2305843009213693951))) (xC (.int 7))) (x2 dMul (xC (.int 104729)) (xVar 1))) (xC (.int 5387))) (aCons (xC (.int 0)) aNil)))))
def h2_law_bag_1 : XS :=
 (sSeq (sSet 3 (xIf (bV (x2 dGe (xN dAbs (aCons (xVar 2) aNil)) (x2 dPow (xC (.int 10)) (xC (.int 18))))) (xN dAbs (aCons (xVar 2) aNil)) (xC (.int 0))))
 h2_law_bag_2)
def h2_law_bag : XS :=
 (sSeq (sSet 2 (xIf (bV (x2 dLt (xVar 1) (xN dLen (aCons (xVar 0) aNil)))) (x2 dIx (xVar 0) (xVar 1)) (xC (.int 0))))
 h2_law_bag_1)
def H2_law_bag : List D → List D → EM D := fun ds es => match (arrP 2 0 []) ds es with
  | some bs => fnB 4 h2_law_bag bs
  | none => no
def h2_law_draw_4 : XS :=
 (sRet (x2 dMod (xN dInt (aCons (x2 dDiv (xVar 3) (xC (.int 4096))) aNil)) (xVar 1)))
def h2_law_draw_3 : XS :=
 (sSeq (sSet 3 (x2 dMod (xN dInt (aCons (x2 dPow (x2 dAdd (xVar 3) (x2 dMul (xC (.int 15485867)) (x2 dIx (xVar 0) (xC (.int 2))))) (xC (.int 2))) aNil)) (xC (.int 2305843009213693951))))
 h2_law_draw_4)
def h2_law_draw_2 : XS :=
 (sSeq (sSet 3 (x2 dMod (xN dInt (aCons (x2 dPow (x2 dAdd (x2 dIx (xVar 0) (xC (.int 1))) (x2 dMul (xC (.int 1299721)) (x2 dIx (xVar 0) (xC (.int 2))))) (xC (.int 3))) aNil)) (xC (.int 2305843009213693921))))
 h2_law_draw_3)
def h2_law_draw_1 : XS :=
 (sSeq (sSetI (x2 dAdd (x2 dIx (xVar 0) (xC (.int 2))) (xC (.int 1))) (xVar 0) (xC (.int 2)))
 h2_law_draw_2)
def h2_law_draw : XS :=
 (sSeq (sIf (bV (x2 dGt (x2 dIx (xVar 0) (xC (.int 0))) (xC (.int 0)))) (sSeq (sSet 2 (x2 dMod (xN dInt (aCons (x2 dIx (xVar 0) (xC (.int 0))) aNil)) (xVar 1)))
 (sSeq (sSetI (x2 dDiv (x2 dIx (xVar 0) (xC (.int 0))) (xVar 1)) (xVar 0) (xC (.int 0)))
 (sRet (xVar 2)))) sNx)
 h2_law_draw_1)
def H2_law_draw : List D → List D → EM D := fun ds es => match (arrP 2 0 []) ds es with
  | some bs => fnB 4 h2_law_draw bs
  | none => no
def h2_law_of : XS :=
 (sRet (x2 dIx (xVar 1) (xCall (kChk ([] : List Str).length H2_law_draw) (aCons (xVar 0) (aCons (xN dLen (aCons (xVar 1) aNil)) aNil)) aNil)))
def H2_law_of : List D → List D → EM D := fun ds es => match (arrP 2 0 []) ds es with
  | some bs => fnB 2 h2_law_of bs
  | none => no
def h2_law_names_5 : XS :=
 (sRet (xLc (iSeq (xVar 7)) (gN 9) bYes (xIf (bV (x2 dNe (xVar 9) (xC (.str "up")))) (xVar 9) (xC (.str "upp"))) [9]))
def h2_law_names_4 : XS :=
 (sSeq (sSet 7 (xLc (iRng (xVar 1)) (gN 8) bYes (x2 dAdd (x2 dAdd (xVar 3) (x2 dIx (xVar 2) (x2 dMod (xN dInt (aCons (x2 dAdd (xVar 5) (x2 dMul (xVar 8) (xVar 6))) aNil)) (xC (.int 26))))) (xVar 4)) [8]))
 h2_law_names_5)
def h2_law_names_3 : XS :=
 (sSeq (sAsg (xTup (aCons (xCall (kChk ([] : List Str).length H2_law_draw) (aCons (xVar 0) (aCons (xC (.int 26)) aNil)) aNil) (aCons (xCall (kChk ([] : List Str).length H2_law_of) (aCons (xVar 0) (aCons (xLst (aCons (xC (.int 1)) (aCons (xC (.int 3)) (aCons (xC (.int 5)) (aCons (xC (.int 7)) (aCons (xC (.int 9)) (aCons (xC (.int 11)) (aCons (xC (.int 15)) (aCons (xC (.int 17)) (aCons (xC (.int 19)) (aCons (xC (.int 21)) (aCons (xC (.int 23)) (aCons (xC (.int 25)) aNil))))))))))))) aNil)) aNil) aNil))) (gT 2 (gsCons (gN 5) (gsCons (gN 6) gsNil))))
 h2_law_names_4)
def h2_law_names_2 : XS :=
 (sSeq (sSet 4 (xJoin (xC (.str "")) (xLc (iRng (xCall (kChk ([] : List Str).length H2_law_draw) (aCons (xVar 0) (aCons (xC (.int 5)) aNil)) aNil)) (gN 10) bYes (x2 dIx (xVar 2) (xCall (kChk ([] : List Str).length H2_law_draw) (aCons (xVar 0) (aCons (xC (.int 26)) aNil)) aNil)) [10])))
 h2_law_names_3)
def h2_law_names_1 : XS :=
 (sSeq (sSet 3 (xJoin (xC (.str "")) (xLc (iRng (xCall (kChk ([] : List Str).length H2_law_draw) (aCons (xVar 0) (aCons (xC (.int 4)) aNil)) aNil)) (gN 10) bYes (x2 dIx (xVar 2) (xCall (kChk ([] : List Str).length H2_law_draw) (aCons (xVar 0) (aCons (xC (.int 26)) aNil)) aNil)) [10])))
 h2_law_names_2)
def h2_law_names : XS :=
 (sSeq (sSet 2 (xC (.str "abcdefghijklmnopqrstuvwxyz")))
 h2_law_names_1)
def H2_law_names : List D → List D → EM D := fun ds es => match (arrP 2 0 []) ds es with
  | some bs => fnB 11 h2_law_names bs
  | none => no
local macro_rules | `(tactic| walk_at "w") => `(tactic| simp only [w_run, w_var, w_c, w_1, w_2, w_N, w_bV, w_bNot, w_bOr, w_bAnd, w_xOr, w_xAnd, w_xNot, w_xIf, w_aNil, w_aCons, w_aStar, w_tup, w_lst, w_tupS, w_lstS, w_lstC, w_listC, w_oNone, w_oSome, w_sl, w_join, w_call, w_chk, w_at, w_lenO, w_chain, w_tru, w_inO, w_xf, w_isX, w_eq, w_lc, w_iSeq, w_iEnu, w_iStr, w_iRng, w_yes,
  s_seq, s_nx, s_set, s_drop, s_ret, s_retN, s_if, s_asg, s_par2, s_par3, s_raise, s_ownC, s_ownL, s_mutO, s_own, s_addO, s_fldO, s_for, s_setI, s_turn,
  ex_some, ex_if, ex_none, ex_bl, ex_int, ex_str, x_addI, x_addS, x_addT, x_addL, x_sub, x_mul, x_mod, x_div, x_pow, x_lt, x_le, x_gt, x_ge, x_neg, x_int, x_abs, x_min, x_max, x_lenS, x_lenL, x_lenW, x_lenT, x_eqS, x_neS, x_eqI, x_neI, x_isN, x_notN, x_ixL, x_ixW, x_ixT, x_ixS, x_tupL, x_tupT, x_frzL, x_frzT, x_frzW, x_enuL, x_seqL, x_seqT, x_gN, x_g2,
  List.getElem?_cons_zero, List.getElem?_cons_succ, List.set_cons_zero, List.set_cons_succ, List.length_nil, wipeL, decide_eq_true_eq, Bool.not_eq_true', decide_eq_false_iff_not, true_and, and_true])
theorem log2_lt2 {m : Int} (h : 0 < m) (h1 : m ≤ 100000000000000000000) : m.natAbs.log2 < 9000 := by
  have h2 : m.natAbs < 2 ^ 9000 := Nat.lt_of_le_of_lt (show m.natAbs ≤ 2 ^ 70 by omega) (Nat.pow_lt_pow_right (by decide) (by decide))
  by_cases z : m.natAbs = 0
  · rw [z]; decide
  · exact (Nat.log2_lt z).mpr h2
theorem draw2_wp {cs : Cells} {b n : Nat} {m : Int} {Q : D → Cells → Prop} {E : Exn → Cells → Prop} (hb : Bag cs b (n + 1)) (h0 : 0 < m) (h1 : m ≤ 100000000000000000000) (k : ∀ r cs', 0 ≤ r → r < m → Bag cs' b n → Kp b cs cs' → Q (.int r) cs') : wp (H2_law_draw [.cel b, .int m] []) cs Q E := by
  obtain ⟨d, mm, c, e, bo⟩ := hb
  have hl : b < cs.length := (List.getElem?_eq_some_iff.mp e).1
  have e1 := celL_of e
  obtain ⟨d0, m0, m1, c0, c1⟩ := bo
  show wp (runB h2_law_draw [.val (.cel b), .val (.int m), .emp, .emp]) cs Q E
  have i0 : ∀ {Q : D → Prop}, (∃ r, dIx cs (.cel b) (.int 0) = some r ∧ Q r) ↔ Q (.int d) := x_ixC (k := 0) e1 rfl
  have i1 : ∀ {Q : D → Prop}, (∃ r, dIx cs (.cel b) (.int 1) = some r ∧ Q r) ↔ Q (.int mm) := x_ixC (k := 1) e1 rfl
  have i2 : ∀ {Q : D → Prop}, (∃ r, dIx cs (.cel b) (.int 2) = some r ∧ Q r) ↔ Q (.int c) := x_ixC (k := 2) e1 rfl
  have sm : cMod (0 : Int) m = true := by unfold cMod; simpa using h0
  unfold h2_law_draw
  walk_at "w"
  simp only [i0]
  walk_at "w"
  by_cases p : 0 < d
  · simp only [p, decide_true, if_true]
    try walk_at "w"
    try simp only [i0]
    try walk_at "w"
    refine ⟨by unfold cMod; simpa using h0, by unfold cDiv; simp only [Bool.and_eq_true, decide_eq_true_eq]; exact ⟨h0, log2_lt2 h0 h1⟩, ?_⟩
    rw [show (0 : Int) = ((0 : Nat) : Int) from rfl, wp_setC e1 (by simp)]
    refine k _ _ (Int.emod_nonneg _ (by omega)) (Int.emod_lt_of_pos _ h0) ⟨d / m, mm, c, ?_, ⟨?_, m0, m1, c0, by omega⟩⟩ Kp.set
    · rw [List.getElem?_set_self hl]; rfl
    · exact Int.ediv_nonneg d0 (by omega)
  · simp only [p, decide_false, Bool.false_eq_true, if_false]
    unfold h2_law_draw_1
    try walk_at "w"
    try simp only [i2]
    try walk_at "w"
    rw [show (2 : Int) = ((2 : Nat) : Int) from rfl, wp_setC e1 (by simp)]
    have e2 : celL (cs.set b (.lst [.int d, .int mm, .int (c + 1)])) b = some [.int d, .int mm, .int (c + 1)] := celL_of (List.getElem?_set_self hl)
    have j1 : ∀ {Q : D → Prop}, (∃ r, dIx (cs.set b (.lst [.int d, .int mm, .int (c + 1)])) (.cel b) (.int 1) = some r ∧ Q r) ↔ Q (.int mm) := x_ixC (k := 1) e2 rfl
    have j2 : ∀ {Q : D → Prop}, (∃ r, dIx (cs.set b (.lst [.int d, .int mm, .int (c + 1)])) (.cel b) (.int 2) = some r ∧ Q r) ↔ Q (.int (c + 1)) := x_ixC (k := 2) e2 rfl
    show wpS (h2_law_draw_2 _ (cs.set b (.lst [.int d, .int mm, .int (c + 1)]))) _
    unfold h2_law_draw_2 h2_law_draw_3 h2_law_draw_4
    try walk_at "w"
    try simp only [j1, j2]
    try walk_at "w"
    try simp only [j1, j2]
    try walk_at "w"
    have q1 := Int.emod_nonneg ((mm + 1299721 * (c + 1)) ^ Int.toNat 3) (show (2305843009213693921 : Int) ≠ 0 by decide)
    have q2 := Int.emod_lt_of_pos ((mm + 1299721 * (c + 1)) ^ Int.toNat 3) (show (0 : Int) < 2305843009213693921 by decide)
    refine ⟨?_, ?_, ?_, ?_, ?_, ?_, ?_, ?_, ?_⟩
    · unfold cMul; rfl
    · unfold cPow; simp only [Bool.and_eq_true, decide_eq_true_eq]; omega
    · rfl
    · unfold cMul; rfl
    · unfold cPow; simp only [Bool.and_eq_true, decide_eq_true_eq]; omega
    · rfl
    · unfold cDiv; rfl
    · unfold cMod; simpa using h0
    · refine k _ _ (Int.emod_nonneg _ (by omega)) (Int.emod_lt_of_pos _ h0) ⟨d, mm, c + 1, List.getElem?_set_self hl, ⟨d0, m0, m1, by omega, by omega⟩⟩ Kp.set
theorem bag2_wp {cs : Cells} {ns : List Int} {k : Nat} {Q : D → Cells → Prop} {E : Exn → Cells → Prop} (hk : k ≤ 100) (q : ∀ cs', Bag cs' cs.length 1000000 → cs'.length = cs.length + 1 → (∀ j, j < cs.length → cs'[j]? = cs[j]?) → Q (.cel cs.length) cs') : wp (H2_law_bag [.wls (ns.map D.int), .int (k : Int)] []) cs Q E := by
  show wp (runB h2_law_bag [.val (.wls (ns.map D.int)), .val (.int (k : Int)), .emp, .emp]) cs Q E
  have fin : ∀ z : Int, wpS (h2_law_bag_1 [.val (.wls (ns.map D.int)), .val (.int (k : Int)), .val (.int z), .emp] cs) fun fl cs' => match fl with
    | .ret d => Q d cs'
    | .nx _ => Q .non cs'
    | .ex x _ => E x cs'
    | _ => False := by
    intro z
    unfold h2_law_bag_1
    walk_at "w"
    refine ⟨by rfl, ?_⟩
    have fin2 : ∀ y : Int, 0 ≤ y → wpS (h2_law_bag_2 [.val (.wls (ns.map D.int)), .val (.int (k : Int)), .val (.int z), .val (.int y)] cs) fun fl cs' => match fl with
      | .ret d => Q d cs'
      | .nx _ => Q .non cs'
      | .ex x _ => E x cs'
      | _ => False := by
      intro y hy
      unfold h2_law_bag_2
      walk_at "w"
      have h1 := Int.emod_nonneg z (show (2305843009213693951 : Int) ≠ 0 by decide)
      have h2 := Int.emod_lt_of_pos z (show (0 : Int) < 2305843009213693951 by decide)
      refine ⟨by rfl, ?_, ?_, q _ ⟨y, _, 0, List.getElem?_concat_length, hy, ?_, ?_, by decide, by decide⟩ (by simp) fun j hj => List.getElem?_append_left hj⟩
      · unfold cMul; simp
      · unfold cMul; simp
      · omega
      · omega
    rw [pow10_18]
    by_cases p : (1000000000000000000 : Int) ≤ if z < 0 then -z else z
    · simp only [p, if_true]
      exact fin2 _ (by omega)
    · simp only [p, if_false]
      exact fin2 _ (by omega)
  unfold h2_law_bag
  walk_at "w"
  by_cases p : ((k : Nat) : Int) < ((ns.map D.int).length : Int)
  · simp only [p, if_true]
    have hl : k < ns.length := by simp at p; omega
    rw [atI_nat (x := D.int ns[k]) (by simp [hl])]
    walk_at "w"
    exact fin _
  · simp only [p, if_false]
    exact fin 0
theorem of2_wp {cs : Cells} {b n : Nat} {xs : List D} {Q : D → Cells → Prop} {E : Exn → Cells → Prop} (hb : Bag cs b (n + 1)) (h0 : xs ≠ []) (h1 : xs.length ≤ 1000) (k : ∀ (i : Nat) x cs', xs[i]? = some x → Bag cs' b n → Kp b cs cs' → Q x cs') : wp (H2_law_of [.cel b, .lst xs] []) cs Q E := by
  show wp (runB h2_law_of [.val (.cel b), .val (.lst xs)]) cs Q E
  have hl := List.length_pos_iff.mpr h0
  unfold h2_law_of
  walk_at "w"
  refine draw2_wp hb (by omega) (by omega) fun r cs' r0 r1 hb' kp => ?_
  obtain ⟨t, rfl⟩ : ∃ t : Nat, r = (t : Int) := ⟨r.toNat, by omega⟩
  have ht : t < xs.length := by omega
  have e : xs[t]? = some xs[t] := List.getElem?_eq_getElem ht
  rw [x_ixL, atI_nat e]
  walk_at "w"
  exact k t _ cs' e hb' kp
theorem join2_wp {l : Loc} {cs : Cells} {b n q : Nat} {Q : D → Cells → Prop} {E : Exn → Cells → Prop} (hv : l[0]? = some (.val (.cel b))) (hx : l[2]? = some (.val (.str "abcdefghijklmnopqrstuvwxyz"))) (hq : 0 < q ∧ q ≤ 5) (hb : Bag cs b (n + 5)) (k : ∀ ts cs', ts.length < q → (∀ c ∈ ts, ltr c) → Bag cs' b n → Kp b cs cs' → Q (.str (tx ts)) cs') :
    wp (xJoin (xC (.str "")) (xLc (iRng (xCall (kChk ([] : List Str).length H2_law_draw) (aCons (xVar 0) (aCons (xC (.int q)) aNil)) aNil)) (gN 10) bYes (x2 dIx (xVar 2) (xCall (kChk ([] : List Str).length H2_law_draw) (aCons (xVar 0) (aCons (xC (.int 26)) aNil)) aNil)) [10]) l) cs Q E := by
  walk_at "w"
  simp only [hv]
  refine draw2_wp hb (by omega) (by omega) fun r cs1 r0 r1 hb1 kp => ?_
  obtain ⟨t, rfl⟩ : ∃ t : Nat, r = (t : Int) := ⟨r.toNat, by omega⟩
  walk_at "w"
  refine ⟨by omega, by simp; omega, ?_⟩
  rw [Int.toNat_natCast]
  refine comp_bag (N := n + 4) (k := 1) (fun _ y => ∃ c, ltr c ∧ y = .str (tx [c])) hb1 (by omega) ?_ ?_
  · intro i cs2 hi hb2
    refine ⟨_, rfl, ?_⟩
    have g0 : ((l.set 10 .emp).set 10 (.val (.int (i : Int))))[0]? = some (.val (.cel b)) := by simpa using hv
    have g2 : ((l.set 10 .emp).set 10 (.val (.int (i : Int))))[2]? = some (.val (.str "abcdefghijklmnopqrstuvwxyz")) := by simpa using hx
    walk_at "w"
    simp only [g0, g2]
    refine draw2_wp (n := n + 4 - i * 1 - 1) (hb2.mono (by omega)) (by decide) (by decide) fun r cs3 r0 r1 hb3 kp3 => ?_
    obtain ⟨t2, rfl⟩ : ∃ t2 : Nat, r = (t2 : Int) := ⟨r.toNat, by omega⟩
    rw [x_ixS, atI_nat (letters_at (i := t2) (by omega))]
    walk_at "w"
    exact ⟨⟨97 + t2, ⟨by omega, by omega⟩, rfl⟩, hb3, kp3⟩
  · intro ys cs2 ly hy hb2 kp2
    obtain ⟨ts, rfl, ht⟩ := list_of (p := ltr) (f := fun c => D.str (tx [c])) (xs := ys) fun v hv => by
      obtain ⟨i, hi⟩ := List.mem_iff_getElem?.mp hv
      exact hy i v hi
    rw [List.length_map] at ly
    have e : joinD "" (.lst (ts.map fun c => D.str (tx [c]))) cs2 = some (.str (tx ts)) := by
      show (match strsOf (ts.map fun c => D.str (tx [c])) with
        | some zs => if (decide ((zs.map fun (z : Str) => z.length).sum + zs.length * ("" : Str).length ≤ 1000000) && fitB (Txt.join "" zs).length) = true then some (D.str (Txt.join "" zs)) else none
        | none => none) = _
      have e1 : (ts.map fun c => D.str (tx [c])) = (ts.map fun c => tx [c]).map D.str := by rw [List.map_map]; rfl
      rw [e1, strsOf_map]
      dsimp only
      rw [join_one, sum_one, if_pos]
      rw [Bool.and_eq_true]
      refine ⟨decide_eq_true ?_, decide_eq_true ?_⟩
      · have : ("" : Str).length = 0 := by decide +kernel
        rw [this]
        omega
      · rw [tx_len]; omega
    rw [e]
    walk_at "w"
    exact k ts cs2 (by omega) ht (hb2.mono (by omega)) (kp.trans kp2)
end F

/-! names of the second family -/
namespace F
open PySem L2
local macro_rules | `(tactic| walk_at "w") => `(tactic| simp only [w_run, w_var, w_c, w_1, w_2, w_N, w_bV, w_bNot, w_bOr, w_bAnd, w_xOr, w_xAnd, w_xNot, w_xIf, w_aNil, w_aCons, w_aStar, w_tup, w_lst, w_tupS, w_lstS, w_lstC, w_listC, w_oNone, w_oSome, w_sl, w_join, w_call, w_chk, w_at, w_lenO, w_chain, w_tru, w_inO, w_xf, w_isX, w_eq, w_lc, w_iSeq, w_iEnu, w_iStr, w_iRng, w_yes,
  s_seq, s_nx, s_set, s_drop, s_ret, s_retN, s_if, s_asg, s_par2, s_par3, s_raise, s_ownC, s_ownL, s_mutO, s_own, s_addO, s_fldO, s_for, s_setI, s_turn,
  ex_some, ex_if, ex_none, ex_bl, ex_int, ex_str, x_addI, x_addS, x_addT, x_addL, x_sub, x_mul, x_mod, x_div, x_pow, x_lt, x_le, x_gt, x_ge, x_neg, x_int, x_abs, x_min, x_max, x_lenS, x_lenL, x_lenW, x_lenT, x_eqS, x_neS, x_eqI, x_neI, x_isN, x_notN, x_ixL, x_ixW, x_ixT, x_ixS, x_tupL, x_tupT, x_frzL, x_frzT, x_frzW, x_enuL, x_seqL, x_seqT, x_gN, x_g2,
  List.getElem?_cons_zero, List.getElem?_cons_succ, List.set_cons_zero, List.set_cons_succ, List.length_nil, wipeL, decide_eq_true_eq, Bool.not_eq_true', decide_eq_false_iff_not, true_and, and_true])
def stepsL : List Int := [1, 3, 5, 7, 9, 11, 15, 17, 19, 21, 23, 25]
theorem fnd_inj2 {l r : List Nat} {f s : Int} (hq : s ∈ stepsL) (f0 : 0 ≤ f) {j k : Nat} (hj : j < 26) (hk : k < 26) (e : fnd l r f s j = fnd l r f s k) : j = k := by
  unfold fnd at e
  rw [List.append_assoc, List.append_assoc] at e
  have e2 := List.append_cancel_left e
  have e3 : 97 + ((f + j * s) % 26).toNat = 97 + ((f + k * s) % 26).toNat := by
    have := congrArg (fun z => z.head?) e2
    simpa using this
  have m1 : (0 : Int) ≤ (f + j * s) % 26 := Int.emod_nonneg _ (by decide)
  have m2 : (0 : Int) ≤ (f + k * s) % 26 := Int.emod_nonneg _ (by decide)
  have e4 : (f + j * s) % 26 = (f + k * s) % 26 := by omega
  simp only [stepsL, List.mem_cons, List.not_mem_nil, or_false] at hq
  rcases hq with rfl | rfl | rfl | rfl | rfl | rfl | rfl | rfl | rfl | rfl | rfl | rfl
  all_goals omega
theorem words_ok2 {l r : List Nat} {f s : Int} {m : Nat} (hq : s ∈ stepsL) (f0 : 0 ≤ f) (hm : m ≤ 26) (ll : l.length ≤ 3) (lr : r.length ≤ 4) (hl : ∀ c ∈ l, ltr c) (hr : ∀ c ∈ r, ltr c) :
    WordsOk m ((List.range m).map fun k => tx (fin1 (fnd l r f s k))) := by
  have flen : ∀ k, (fnd l r f s k).length = l.length + 1 + r.length := fun k => by
    unfold fnd
    simp only [List.length_append, List.length_cons, List.length_nil]
  have fl : ∀ k, ∀ c ∈ fnd l r f s k, ltr c := fun k c hc => by
    unfold fnd at hc
    rcases List.mem_append.mp hc with hc | hc
    · rcases List.mem_append.mp hc with hc | hc
      · exact hl c hc
      · simp at hc
        have m1 : (0 : Int) ≤ (f + k * s) % 26 := Int.emod_nonneg _ (by decide)
        have m2 : (f + k * s) % 26 < 26 := Int.emod_lt_of_pos _ (by decide)
        exact ⟨by omega, by omega⟩
    · exact hr c hc
  refine ⟨by simp, fun x hx => ?_, fun x hx => ?_, ?_⟩
  · obtain ⟨k, hk, rfl⟩ := List.mem_map.mp hx
    unfold fin1
    split
    · decide +kernel
    · refine nmS_of ?_ ?_ fun c hc => fl k c ?_
      · rw [S_length, flen]; omega
      · rw [S_length, flen]; omega
      · simpa [tx] using hc
  · obtain ⟨k, hk, rfl⟩ := List.mem_map.mp hx
    rw [up_S]
    intro e
    have e := tx_inj e
    unfold fin1 at e
    split at e
    · exact absurd e (by decide)
    · exact absurd e ‹_›
  · show List.Pairwise (· ≠ ·) _
    rw [List.pairwise_map]
    refine List.Pairwise.imp_of_mem (fun {i j} hi hj hne => ?_) (List.nodup_range (n := m))
    have hi := List.mem_range.mp hi
    have hj := List.mem_range.mp hj
    intro e
    have e : fin1 (fnd l r f s i) = fin1 (fnd l r f s j) := tx_inj e
    have ne : fnd l r f s i ≠ fnd l r f s j := fun z => absurd (fnd_inj2 hq f0 (by omega) (by omega) z) (by omega)
    unfold fin1 at e
    by_cases h1 : fnd l r f s i = upL
    · by_cases h2 : fnd l r f s j = upL
      · exact ne (h1.trans h2.symm)
      · rw [if_pos h1, if_neg h2] at e
        have a := flen i
        have b := flen j
        rw [h1] at a
        rw [← e] at b
        have a' : 2 = l.length + 1 + r.length := a
        have b' : 3 = l.length + 1 + r.length := b
        omega
    · by_cases h2 : fnd l r f s j = upL
      · rw [if_neg h1, if_pos h2] at e
        have a := flen i
        have b := flen j
        rw [h2] at b
        rw [e] at a
        have a' : 3 = l.length + 1 + r.length := a
        have b' : 2 = l.length + 1 + r.length := b
        omega
      · rw [if_neg h1, if_neg h2] at e
        exact ne e

theorem of2_steps {cs : Cells} {b n : Nat} {Q : D → Cells → Prop} {E : Exn → Cells → Prop} (hb : Bag cs b (n + 1)) (k : ∀ s cs', s ∈ stepsL → 0 ≤ s → s ≤ 25 → Bag cs' b n → Kp b cs cs' → Q (.int s) cs') : wp (H2_law_of [.cel b, .lst [.int 1, .int 3, .int 5, .int 7, .int 9, .int 11, .int 15, .int 17, .int 19, .int 21, .int 23, .int 25]] []) cs Q E := by
  refine of2_wp (n := n) hb (by simp) (by simp) fun iq q cs4 hqq hb4 kp4 => ?_
  have hm := List.mem_of_getElem? hqq
  simp only [List.mem_cons, List.not_mem_nil, or_false] at hm
  rcases hm with rfl | rfl | rfl | rfl | rfl | rfl | rfl | rfl | rfl | rfl | rfl | rfl <;> exact k _ cs4 (by decide) (by decide) (by decide) hb4 kp4
theorem names2_wp {cs : Cells} {b n m : Nat} {Q : D → Cells → Prop} {E : Exn → Cells → Prop} (hm : m ≤ 26) (hb : Bag cs b (n + 13)) (k : ∀ ws cs', WordsOk m ws → Bag cs' b n → Kp b cs cs' → Q (.lst (ws.map D.str)) cs') : wp (H2_law_names [.cel b, .int (m : Int)] []) cs Q E := by
  show wp (runB h2_law_names [.val (.cel b), .val (.int (m : Int)), .emp, .emp, .emp, .emp, .emp, .emp, .emp, .emp, .emp]) cs Q E
  rw [w_run]
  unfold h2_law_names h2_law_names_1 h2_law_names_2
  rw [s_seq, s_set, w_c]
  simp only [List.set_cons_zero, List.set_cons_succ]
  rw [s_seq, s_set]
  refine join2_wp (q := 4) (n := n + 8) rfl rfl (by decide) (hb.mono (by omega)) fun t1 cs1 l1 g1 hb1 kp1 => ?_
  simp only [List.set_cons_zero, List.set_cons_succ]
  rw [s_seq, s_set]
  refine join2_wp (q := 5) (n := n + 2) rfl rfl (by decide) (hb1.mono (by omega)) fun t2 cs2 l2 g2 hb2 kp2 => ?_
  unfold h2_law_names_3
  walk_at "w"
  refine draw2_wp (n := n + 1) hb2 (by decide) (by decide) fun f cs3 f0 f1 hb3 kp3 => ?_
  refine of2_steps hb3 fun s cs4 hs s0 s1 hb4 kp4 => ?_
  try walk_at "w"
  unfold h2_law_names_4 h2_law_names_5
  walk_at "w"
  refine ⟨by omega, by simp; omega, ?_⟩
  rw [Int.toNat_natCast]
  refine comp_bag (N := n) (k := 0) (fun i y => y = .str (tx (fnd t1 t2 f s i))) hb4 (by omega) ?_ ?_
  · intro i cs5 hi hb5
    refine ⟨_, rfl, ?_⟩
    have m1 : (0 : Int) ≤ (f + i * s) % 26 := Int.emod_nonneg _ (by decide)
    have m2 : (f + i * s) % 26 < 26 := Int.emod_lt_of_pos _ (by decide)
    walk_at "w"
    refine ⟨?_, by rfl, ?_⟩
    · unfold cMul
      simp only [Bool.or_eq_true, Bool.and_eq_true, decide_eq_true_eq]
      omega
    · rw [atIi m1 (letters_at (by omega))]
      walk_at "w"
      refine ⟨?_, ?_, ?_, by simpa using hb5, Kp.refl⟩
      · unfold fitB
        rw [decide_eq_true_eq, tx_len]
        show t1.length + 1 ≤ _
        omega
      · unfold fitB
        rw [decide_eq_true_eq, str_app_len, tx_len, tx_len]
        show t1.length + 1 + t2.length ≤ _
        omega
      · have e : ∀ a b : List Nat, tx a ++ tx b = tx (a ++ b) := fun a b => by
          show Str.mk _ = Str.mk _
          simp
        show D.str (tx t1 ++ tx [97 + ((f + i * s) % 26).toNat] ++ tx t2) = _
        rw [e, e]
        rfl
  · intro ys cs5 ly hy hb5 kp5
    have ey := list_eq (h := fun i => D.str (tx (fnd t1 t2 f s i))) ly hy
    subst ey
    refine ⟨by simp; omega, ?_⟩
    refine comp_bag (N := n) (k := 0) (fun i y => y = .str (tx (fin1 (fnd t1 t2 f s i)))) (by simpa using hb5) (by omega) ?_ ?_
    · intro i cs6 hi hb6
      refine ⟨_, rfl, ?_⟩
      walk_at "w"
      by_cases p : (tx (fnd t1 t2 f s i)) = "up"
      · simp only [p, not_true, if_false]
        refine ⟨?_, by simpa using hb6, Kp.refl⟩
        rw [up_S] at p
        rw [tx_inj p, upp_S]
        rfl
      · simp only [p, not_false_iff, if_true]
        refine ⟨?_, by simpa using hb6, Kp.refl⟩
        unfold fin1
        rw [if_neg]
        intro z
        exact p (by rw [z]; exact up_S.symm)
    · intro zs cs6 lz hz hb6 kp6
      have ez := list_eq (h := fun i => D.str (tx (fin1 (fnd t1 t2 f s i)))) lz hz
      subst ez
      have := k _ cs6 (words_ok2 (l := t1) (r := t2) (f := f) (s := s) (m := m) hs f0 hm (by omega) (by omega) g1 g2) (by simpa using hb6) ((((kp1.trans kp2).trans kp3).trans kp4).trans (kp5.trans kp6))
      rw [List.map_map] at this
      exact this
end F

/-! the words of F25, F26; == of nested data -/
namespace F
open PySem L2
section
variable {cs : Cells} {l : Loc} {Q : D → Cells → Prop} {U : List D → Cells → Prop} {E : Exn → Cells → Prop} {P : Fl → Cells → Prop} {fa fb : XE} {i : Nat} {t : EqT}
theorem w_notT : wp (xNotT fa l) cs Q E ↔ wp (fa l) cs (fun d cs1 => ∃ b, truD cs1 d = some b ∧ Q (.bl (!b)) cs1) E := by
  unfold xNotT bTru
  simp only [wp_bd, wp_rd, wp_rt]
theorem w_binI : wp (xBinI t fa fb l) cs Q E ↔ wp (fa l) cs (fun x cs1 => wp (fb l) cs1 (fun y cs2 => wp (binDyn t x y) cs2 Q E) E) E := by
  unfold xBinI
  simp only [wp_bd]
theorem w_lenI : wp (xLenI t fa l) cs Q E ↔ wp (fa l) cs (fun x cs1 => wp (lenDyn t x) cs1 Q fun _ _ => False) E := by
  unfold xLenI
  simp only [wp_bd, w_nox]
theorem w_inI {neg : Bool} : wp (xInI t neg fa fb l) cs Q E ↔ wp (fa l) cs (fun x cs1 => wp (fb l) cs1 (fun y cs2 => wp (inDyn t neg x y) cs2 Q fun _ _ => False) E) E := by
  unfold xInI
  simp only [wp_bd, w_nox]
theorem w_prop : wp (xProp t fa l) cs Q E ↔ wp (fa l) cs (fun x cs1 => wp (propDyn t x) cs1 Q fun _ _ => False) E := by
  unfold xProp
  simp only [wp_bd, w_nox]
def enuT : D → Option (List D)
  | .tup xs => some (numbered 0 xs)
  | _ => none
theorem w_iEnuT : wp (iEnuT fa l) cs U E ↔ wp (fa l) cs (fun d cs1 => ∃ r, enuT d = some r ∧ U r cs1) E := by
  unfold iEnuT
  simp only [wp_bd, wp_rd]
  refine wp_iff (fun d cs' => ?_) fun _ _ => Iff.rfl
  cases d <;> exact Iff.rfl
theorem x_enuT {xs : List D} {Q : List D → Prop} : (∃ r, enuT (.tup xs) = some r ∧ Q r) ↔ Q (numbered 0 xs) := ex_some
theorem s_pub {xs : List D} (h : l[i]? = some (.own (.lst xs))) : wpS (sPub i l cs) P ↔ P (.nx (l.set i (.val (.cel cs.length)))) (cs ++ [.lst xs]) := by
  unfold sPub
  rw [h]
  exact Iff.rfl
theorem w_callS {F : List D → List D → EM D} {f2 : XA} : wp (xCallS F fa f2 l) cs Q E ↔ wp (fa l) cs (fun y cs1 => wp (f2 l) cs1 (fun ks cs2 => ∃ ds, seqOf cs2 y = some ds ∧ wp (F ds ks) cs2 Q E) E) E := by
  unfold xCallS
  simp only [wp_bd, wp_rd]
theorem x_listT {xs : List D} {Q : D → Prop} : (∃ r, dList cs [.tup xs] = some r ∧ Q r) ↔ Q (.lst xs) := ex_some
theorem x_truL {xs : List D} {Q : Bool → Prop} : (∃ r, truD cs (.lst xs) = some r ∧ Q r) ↔ Q (!xs.isEmpty) := ex_some
theorem x_slT {xs : List D} {a b : Option Int} {Q : D → Prop} : (∃ r, slD (.tup xs) a b cs = some r ∧ Q r) ↔ Q (.tup (cutD xs a b)) := ex_some
end
theorem cut_drop {xs : List D} {k : Nat} : cutD xs (some (k : Int)) none = xs.drop k := by
  unfold cutD
  rw [HT.sIx_none, HT.sIx_nat]
  rcases Nat.le_total k xs.length with h | h
  · rw [Nat.min_eq_left h, List.take_of_length_le]
    rw [List.length_drop]
    exact Nat.le_refl _
  · rw [Nat.min_eq_right h, List.drop_length, List.drop_of_length_le h]
    exact List.take_nil
theorem isi_i {tb : Tb} {cs : Cells} {i : Int} {Q : D → Prop} : (∃ r, dIsi tb cs [.int i, .ty "int"] = some r ∧ Q r) ↔ Q (.bl true) := by
  have e : dIsi tb cs [.int i, .ty "int"] = some (.bl true) := by
    show (isiB "int" "int").map D.bl = _
    rfl
  rw [e]
  exact ex_some
theorem isi_ib {tb : Tb} {cs : Cells} {i : Int} {Q : D → Prop} : (∃ r, dIsi tb cs [.int i, .ty "bool"] = some r ∧ Q r) ↔ Q (.bl false) := by
  have e : dIsi tb cs [.int i, .ty "bool"] = some (.bl false) := by
    show (isiB "int" "bool").map D.bl = _
    rfl
  rw [e]
  exact ex_some
theorem isi_nt {tb : Tb} {cs : Cells} {Q : D → Prop} : (∃ r, dIsi tb cs [.non, .ty "tuple"] = some r ∧ Q r) ↔ Q (.bl false) := by
  have e : dIsi tb cs [.non, .ty "tuple"] = some (.bl false) := by
    show (isiB "NoneType" "tuple").map D.bl = _
    rfl
  rw [e]
  exact ex_some
theorem isi_s {tb : Tb} {cs : Cells} {x : Str} {Q : D → Prop} : (∃ r, dIsi tb cs [.str x, .ty "str"] = some r ∧ Q r) ↔ Q (.bl true) := by
  have e : dIsi tb cs [.str x, .ty "str"] = some (.bl true) := by
    show (isiB "str" "str").map D.bl = _
    rfl
  rw [e]
  exact ex_some
/-! == of data of a bounded depth -/
def okN (n : Nat) (d : D) : Bool := match toP0 d with
  | some p => p.canLay0 && (decide (p.depth ≤ n) && PyData.eqv p p)
  | none => false
theorem okN_D {d : D} : okD d = okN 20 d := rfl
theorem okN_mono {n m : Nat} {d : D} (h : okN n d = true) (le : n ≤ m) : okN m d = true := by
  unfold okN at h ⊢
  cases q : toP0 d with
  | none => rw [q] at h; cases h
  | some p =>
    rw [q] at h
    simp only [Bool.and_eq_true, decide_eq_true_eq] at h ⊢
    exact ⟨h.1, by omega, h.2.2⟩
theorem okN_at {n : Nat} {d : D} (h : okN n d = true) : ∃ p, toP0 d = some p ∧ PyData.canLay0 p = true ∧ p.depth ≤ n ∧ PyData.eqv p p = true := by
  unfold okN at h
  cases q : toP0 d with
  | none => rw [q] at h; cases h
  | some p =>
    rw [q] at h
    simp only [Bool.and_eq_true, decide_eq_true_eq] at h
    exact ⟨p, rfl, h.1, h.2.1, h.2.2⟩
theorem toPs_okN {n : Nat} : ∀ {ds : List D}, (∀ d ∈ ds, okN n d = true) → ∃ ps, toPs ds = some ps ∧ PyData.canLayAll0 ps = true ∧ PyData.depthAll ps ≤ n ∧ PyData.eqvAll ps ps = true ∧ ps.length = ds.length
  | [], _ => ⟨[], rfl, rfl, Nat.zero_le _, rfl, rfl⟩
  | d :: ds, h => by
    obtain ⟨ps, e, a, b, c, l⟩ := toPs_okN (ds := ds) fun x hx => h x (List.mem_cons_of_mem _ hx)
    obtain ⟨p, q, h1, h2, h3⟩ := okN_at (h d List.mem_cons_self)
    refine ⟨p :: ps, ?_, ?_, ?_, ?_, by simp [l]⟩
    · show (match toP0 d, toPs ds with | some p, some ps => some (p :: ps) | _, _ => none) = _
      rw [q, e]
    · show (PyData.canLay0 p && PyData.canLayAll0 ps) = true
      rw [h1, a]
      rfl
    · show max (PyData.depth p) (PyData.depthAll ps) ≤ n
      omega
    · show (PyData.eqv p p && PyData.eqvAll ps ps) = true
      rw [h3, c]
      rfl
theorem okN_tup {n : Nat} {ds : List D} (h : ∀ d ∈ ds, okN n d = true) : okN (n + 1) (.tup ds) = true := by
  obtain ⟨ps, e, a, b, c, l⟩ := toPs_okN h
  unfold okN
  rw [toP0_tup e]
  dsimp only
  rw [Bool.and_eq_true, Bool.and_eq_true]
  exact ⟨a, decide_eq_true (by show PyData.depthAll ps + 1 ≤ n + 1; omega), by rw [PyData.eqv]; exact c⟩
theorem okN_nm {x : Str} {n : Nat} (h : nmS x = true) : okN n (.str x) = true := by
  show (PyData.strOk x && (decide (0 ≤ n) && PyData.eqv (.str x) (.str x))) = true
  rw [strOk_nm h]
  simp [PyData.eqv]
theorem okN_int {i : Int} {n : Nat} : okN n (.int i) = true := by
  show (true && (decide (0 ≤ n) && PyData.eqv (.int i) (.int i))) = true
  simp [PyData.eqv]
theorem okN_non {n : Nat} : okN n .non = true := by
  show (true && (decide (0 ≤ n) && PyData.eqv .none .none)) = true
  simp [PyData.eqv]
def dq (x y : D) : Bool := match toP0 x, toP0 y with
  | some p, some q => PyData.eqv p q
  | _, _ => false
def dqA (xs ys : List D) : Bool := match toPs xs, toPs ys with
  | some ps, some qs => PyData.eqvAll ps qs
  | _, _ => false
theorem eqB_dqA {cs : Cells} {xs ys : List D} (hx : ∀ d ∈ xs, okD d = true) (hy : ∀ d ∈ ys, okD d = true) : eqB cs (.tup xs) (.tup ys) = some (dqA xs ys) := by
  obtain ⟨ps, e, a, b, c, _⟩ := toPs_ok hx
  obtain ⟨qs, e', a', b', c', _⟩ := toPs_ok hy
  unfold dqA
  rw [eqB_tup, eqP_of (p := .tuple ps) (q := .tuple qs) (toP_tup e) (toP_tup e') (shapedT a b) (shapedT a' b'), PyData.eqv, e, e']
theorem x_eqT {cs : Cells} {xs ys : List D} {Q : D → Prop} (hx : ∀ d ∈ xs, okD d = true) (hy : ∀ d ∈ ys, okD d = true) : (∃ r, dEq cs (.tup xs) (.tup ys) = some r ∧ Q r) ↔ Q (.bl (dqA xs ys)) := by
  show (∃ r, (eqB cs (.tup xs) (.tup ys)).map _ = some r ∧ Q r) ↔ _
  rw [eqB_dqA hx hy]
  exact ex_some
theorem dqA_self {xs : List D} (hx : ∀ d ∈ xs, okD d = true) : dqA xs xs = true := by
  obtain ⟨ps, e, a, b, c, _⟩ := toPs_ok hx
  unfold dqA
  rw [e]
  exact c
theorem eqv_len : ∀ {ps qs : List PyData}, PyData.eqvAll ps qs = true → ps.length = qs.length
  | [], [], _ => rfl
  | [], _ :: _, h => by simp [PyData.eqvAll] at h
  | _ :: _, [], h => by simp [PyData.eqvAll] at h
  | p :: ps, q :: qs, h => by
    rw [PyData.eqvAll, Bool.and_eq_true] at h
    simp [eqv_len h.2]
theorem toPs_len : ∀ {xs : List D} {ps : List PyData}, toPs xs = some ps → ps.length = xs.length
  | [], ps, h => by cases h; rfl
  | d :: ds, ps, h => by
    have h : (match toP0 d, toPs ds with | some p, some ps => some (p :: ps) | _, _ => none) = some ps := h
    cases q : toP0 d with
    | none => rw [q] at h; cases h
    | some p =>
      cases q2 : toPs ds with
      | none => rw [q, q2] at h; cases h
      | some ps' =>
        rw [q, q2] at h
        cases h
        simp [toPs_len q2]
theorem dqA_len {xs ys : List D} (h : xs.length ≠ ys.length) : dqA xs ys = false := by
  unfold dqA
  cases q : toPs xs with
  | none => rfl
  | some ps =>
    cases q2 : toPs ys with
    | none => rfl
    | some qs =>
      dsimp only
      cases e : PyData.eqvAll ps qs with
      | false => rfl
      | true => exact absurd (by rw [← toPs_len q, ← toPs_len q2]; exact eqv_len e) h
theorem dqA_cons {x y : D} {xs ys : List D} : dqA (x :: xs) (y :: ys) = (dq x y && dqA xs ys) := by
  unfold dqA dq
  rw [show toPs (x :: xs) = (match toP0 x, toPs xs with | some p, some ps => some (p :: ps) | _, _ => none) from rfl, show toPs (y :: ys) = (match toP0 y, toPs ys with | some p, some ps => some (p :: ps) | _, _ => none) from rfl]
  cases toP0 x with
  | none => simp
  | some p =>
    cases toPs xs with
    | none => cases toP0 y <;> simp
    | some ps =>
      cases toP0 y with
      | none => simp
      | some q =>
        cases toPs ys with
        | none => simp
        | some qs => simp [PyData.eqvAll]
theorem dqA_at : ∀ {xs ys : List D} {k : Nat} {x y : D}, xs[k]? = some x → ys[k]? = some y → dq x y = false → dqA xs ys = false
  | [], _, k, _, _, h, _, _ => by simp at h
  | _ :: _, [], k, _, _, _, h, _ => by simp at h
  | a :: xs, b :: ys, 0, x, y, h1, h2, h => by
    simp at h1 h2
    subst h1 h2
    rw [dqA_cons, h]
    rfl
  | a :: xs, b :: ys, k + 1, x, y, h1, h2, h => by
    rw [dqA_cons, dqA_at (xs := xs) (ys := ys) (k := k) (by simpa using h1) (by simpa using h2) h, Bool.and_false]
theorem dq_tup {xs ys : List D} : dq (.tup xs) (.tup ys) = dqA xs ys := by
  unfold dq dqA
  rw [show toP0 (.tup xs) = (toPs xs).map PyData.tuple from rfl, show toP0 (.tup ys) = (toPs ys).map PyData.tuple from rfl]
  cases toPs xs with
  | none => rfl
  | some ps =>
    cases toPs ys with
    | none => rfl
    | some qs => show PyData.eqv _ _ = _; rw [PyData.eqv]
/-! cells that are added -/
theorem Bag.app {cs : Cells} {b n : Nat} {ds : List C} (h : Bag cs b n) : Bag (cs ++ ds) b n := by
  obtain ⟨d, m, c, e, o⟩ := h
  exact ⟨d, m, c, by rw [List.getElem?_append_left (List.getElem?_eq_some_iff.mp e).1]; exact e, o⟩
theorem Bag.lt {cs : Cells} {b n : Nat} (h : Bag cs b n) : b < cs.length := by
  obtain ⟨d, m, c, e, o⟩ := h
  exact (List.getElem?_eq_some_iff.mp e).1
theorem Bag.put {cs : Cells} {b n k : Nat} {o : C} (h : Bag cs b n) (ne : k ≠ b) : Bag (cs.set k o) b n := by
  obtain ⟨d, m, c, e, q⟩ := h
  exact ⟨d, m, c, by rw [List.getElem?_set_ne ne]; exact e, q⟩
end F

/-! data of a bounded depth: what isinstance and == answer -/
namespace F
open PySem L2
def gdN : Nat → D → Bool
  | _, .non => true
  | _, .bl _ => true
  | _, .int _ => true
  | _, .str x => PyData.strOk x
  | n + 1, .tup ds => ds.all (gdN n)
  | n + 1, .lst ds => ds.all (gdN n)
  | _, _ => false
theorem okN_bl {b : Bool} {n : Nat} : okN n (.bl b) = true := by
  show (true && (decide (0 ≤ n) && PyData.eqv (.bool b) (.bool b))) = true
  cases b <;> simp [PyData.eqv]
theorem okN_str {x : Str} {n : Nat} (h : PyData.strOk x = true) : okN n (.str x) = true := by
  show (PyData.strOk x && (decide (0 ≤ n) && PyData.eqv (.str x) (.str x))) = true
  rw [h]
  simp [PyData.eqv]
theorem okN_lst {n : Nat} {ds : List D} (h : ∀ d ∈ ds, okN n d = true) : okN (n + 1) (.lst ds) = true := by
  obtain ⟨ps, e, a, b, c, l⟩ := toPs_okN h
  unfold okN
  rw [toP0_lst e]
  dsimp only
  rw [Bool.and_eq_true, Bool.and_eq_true]
  exact ⟨a, decide_eq_true (by show PyData.depthAll ps + 1 ≤ n + 1; omega), by rw [PyData.eqv]; exact c⟩
theorem gdN_tup {n : Nat} {ds : List D} : gdN (n + 1) (.tup ds) = true ↔ ∀ d ∈ ds, gdN n d = true := by
  rw [gdN, List.all_eq_true]
theorem gdN_lst {n : Nat} {ds : List D} : gdN (n + 1) (.lst ds) = true ↔ ∀ d ∈ ds, gdN n d = true := by
  rw [gdN, List.all_eq_true]
theorem gdN_ok : ∀ {n : Nat} {d : D}, gdN n d = true → okN n d = true
  | n, .non, _ => okN_non
  | n, .bl b, _ => okN_bl
  | n, .int i, _ => okN_int
  | 0, .str x, h => okN_str (by simpa [gdN] using h)
  | n + 1, .str x, h => okN_str (by simpa [gdN] using h)
  | 0, .tup ds, h => by simp [gdN] at h
  | n + 1, .tup ds, h => okN_tup fun d hd => gdN_ok (gdN_tup.mp h d hd)
  | 0, .lst ds, h => by simp [gdN] at h
  | n + 1, .lst ds, h => okN_lst fun d hd => gdN_ok (gdN_lst.mp h d hd)
  | 0, .wls ds, h => by simp [gdN] at h
  | n + 1, .wls ds, h => by simp [gdN] at h
  | 0, .ins c fs, h => by simp [gdN] at h
  | n + 1, .ins c fs, h => by simp [gdN] at h
  | 0, .cel c, h => by simp [gdN] at h
  | n + 1, .cel c, h => by simp [gdN] at h
  | 0, .cls c, h => by simp [gdN] at h
  | n + 1, .cls c, h => by simp [gdN] at h
  | 0, .ty c, h => by simp [gdN] at h
  | n + 1, .ty c, h => by simp [gdN] at h
theorem gdN_mono : ∀ {n m : Nat} {d : D}, gdN n d = true → n ≤ m → gdN m d = true
  | n, m, .non, _, _ => by cases m <;> rfl
  | n, m, .bl b, _, _ => by cases m <;> rfl
  | n, m, .int i, _, _ => by cases m <;> rfl
  | n, m, .str x, h, _ => by
    have h : PyData.strOk x = true := by cases n <;> simpa [gdN] using h
    cases m <;> simpa [gdN] using h
  | 0, m, .tup ds, h, _ => by simp [gdN] at h
  | n + 1, 0, .tup ds, h, le => by omega
  | n + 1, m + 1, .tup ds, h, le => gdN_tup.mpr fun d hd => gdN_mono (gdN_tup.mp h d hd) (by omega)
  | 0, m, .lst ds, h, _ => by simp [gdN] at h
  | n + 1, 0, .lst ds, h, le => by omega
  | n + 1, m + 1, .lst ds, h, le => gdN_lst.mpr fun d hd => gdN_mono (gdN_lst.mp h d hd) (by omega)
  | n, m, .wls ds, h, _ => by cases n <;> simp [gdN] at h
  | n, m, .ins c fs, h, _ => by cases n <;> simp [gdN] at h
  | n, m, .cel c, h, _ => by cases n <;> simp [gdN] at h
  | n, m, .cls c, h, _ => by cases n <;> simp [gdN] at h
  | n, m, .ty c, h, _ => by cases n <;> simp [gdN] at h
theorem gdN_dat {n : Nat} {d : D} (h : gdN n d = true) : datD d = true := by
  cases d <;> first | rfl | (cases n <;> simp [gdN] at h)
theorem gdN_okD {n : Nat} {d : D} (h : gdN n d = true) (hn : n ≤ 20) : okD d = true := okN_mono (gdN_ok h) hn
/-! isinstance -/
def isTup : D → Bool
  | .tup _ => true
  | _ => false
def isLst : D → Bool
  | .lst _ => true
  | _ => false
def isBl : D → Bool
  | .bl _ => true
  | _ => false
def isIn : D → Bool
  | .bl _ => true
  | .int _ => true
  | _ => false
section
variable {tb : Tb} {cs : Cells} {d : D} {Q : D → Prop}
theorem isi_tD (h : datD d = true) : (∃ r, dIsi tb cs [d, .ty "tuple"] = some r ∧ Q r) ↔ Q (.bl (isTup d)) := by
  have e : dIsi tb cs [d, .ty "tuple"] = some (.bl (isTup d)) := by
    cases d <;> first | rfl | cases h
  rw [e]
  exact ex_some
theorem isi_lD (h : datD d = true) : (∃ r, dIsi tb cs [d, .ty "list"] = some r ∧ Q r) ↔ Q (.bl (isLst d)) := by
  have e : dIsi tb cs [d, .ty "list"] = some (.bl (isLst d)) := by
    cases d <;> first | rfl | cases h
  rw [e]
  exact ex_some
theorem isi_bD (h : datD d = true) : (∃ r, dIsi tb cs [d, .ty "bool"] = some r ∧ Q r) ↔ Q (.bl (isBl d)) := by
  have e : dIsi tb cs [d, .ty "bool"] = some (.bl (isBl d)) := by
    cases d <;> first | rfl | cases h
  rw [e]
  exact ex_some
theorem isi_iD (h : datD d = true) : (∃ r, dIsi tb cs [d, .ty "int"] = some r ∧ Q r) ↔ Q (.bl (isIn d)) := by
  have e : dIsi tb cs [d, .ty "int"] = some (.bl (isIn d)) := by
    cases d <;> first | rfl | cases h
  rw [e]
  exact ex_some
theorem isi_lt (h : datD d = true) : (∃ r, dIsiT ["list", "tuple"] cs d = some r ∧ Q r) ↔ Q (.bl (isLst d || isTup d)) := by
  have e : dIsiT ["list", "tuple"] cs d = some (.bl (isLst d || isTup d)) := by
    cases d <;> first | rfl | cases h
  rw [e]
  exact ex_some
end
/-! == with a text -/
def isS (w : Str) : D → Bool
  | .str x => decide (x = w)
  | _ => false
theorem eqB_str {cs : Cells} {n : Nat} {d : D} {w : Str} (h : gdN n d = true) (hn : n ≤ 20) (hw : PyData.strOk w = true) : eqB cs d (.str w) = some (isS w d) := by
  have sh : SeqAt.shaped (.str w) = true := by
    unfold SeqAt.shaped
    rw [Bool.and_eq_true]
    exact ⟨hw, decide_eq_true (Nat.zero_le _)⟩
  obtain ⟨p, e, a, b, c⟩ := okN_at (gdN_ok h)
  have sp : SeqAt.shaped p = true := by
    unfold SeqAt.shaped
    rw [Bool.and_eq_true]
    exact ⟨a, decide_eq_true (by omega)⟩
  cases d with
  | non => rfl
  | int i => rfl
  | str x => rfl
  | bl k =>
    show eqP cs (.bl k) (.str w) = _
    rw [eqP_of (x := .bl k) (y := .str w) e rfl sp sh]
    cases e
    simp [PyData.eqv, isS]
  | tup ds =>
    show eqP cs (.tup ds) (.str w) = _
    rw [eqP_of (x := .tup ds) (y := .str w) e rfl sp sh]
    have e : (toPs ds).map PyData.tuple = some p := e
    cases q : toPs ds with
    | none => rw [q] at e; cases e
    | some ps => rw [q] at e; cases e; simp [PyData.eqv, isS]
  | lst ds =>
    show eqP cs (.lst ds) (.str w) = _
    rw [eqP_of (x := .lst ds) (y := .str w) e rfl sp sh]
    have e : (toPs ds).map PyData.list = some p := e
    cases q : toPs ds with
    | none => rw [q] at e; cases e
    | some ps => rw [q] at e; cases e; simp [PyData.eqv, isS]
  | _ => cases n <;> simp [gdN] at h
theorem x_eqW {cs : Cells} {n : Nat} {d : D} {w : Str} {Q : D → Prop} (h : gdN n d = true) (hn : n ≤ 20) (hw : PyData.strOk w = true) : (∃ r, dEq cs d (.str w) = some r ∧ Q r) ↔ Q (.bl (isS w d)) := by
  show (∃ r, (eqB cs d (.str w)).map _ = some r ∧ Q r) ↔ _
  rw [eqB_str h hn hw]
  exact ex_some
theorem x_neW {cs : Cells} {n : Nat} {d : D} {w : Str} {Q : D → Prop} (h : gdN n d = true) (hn : n ≤ 20) (hw : PyData.strOk w = true) : (∃ r, dNe cs d (.str w) = some r ∧ Q r) ↔ Q (.bl (!isS w d)) := by
  show (∃ r, (eqB cs d (.str w)).map _ = some r ∧ Q r) ↔ _
  rw [eqB_str h hn hw]
  exact ex_some
end F

namespace F
open PySem L2
local macro_rules | `(tactic| walk_at "w") => `(tactic| simp only [w_run, w_var, w_c, w_1, w_2, w_N, w_bV, w_bNot, w_bOr, w_bAnd, w_xOr, w_xAnd, w_xNot, w_xIf, w_aNil, w_aCons, w_aStar, w_tup, w_lst, w_tupS, w_lstS, w_lstC, w_listC, w_oNone, w_oSome, w_sl, w_join, w_call, w_callS, w_chk, w_at, w_lenO, w_chain, w_tru, w_inO, w_xf, w_isX, w_eq, w_lc, w_iSeq, w_iEnu, w_iStr, w_iRng, w_yes, w_notT, w_binI, w_lenI, w_iEnuT,
  s_seq, s_nx, s_set, s_drop, s_ret, s_retN, s_if, s_asg, s_par2, s_par3, s_raise, s_ownC, s_ownL, s_mutO, s_own, s_addO, s_fldO, s_for, s_setI, s_turn,
  ex_some, ex_if, ex_none, ex_bl, ex_int, ex_str, x_addI, x_addS, x_addT, x_addL, x_sub, x_mul, x_mod, x_div, x_pow, x_lt, x_le, x_gt, x_ge, x_neg, x_int, x_abs, x_min, x_max, x_lenS, x_lenL, x_lenW, x_lenT, x_eqS, x_neS, x_eqI, x_neI, x_isN, x_notN, x_ixL, x_ixW, x_ixT, x_ixS, x_tupL, x_tupT, x_frzL, x_frzT, x_frzW, x_enuL, x_enuT, x_seqL, x_seqT, x_gN, x_g2, x_listT, x_truL, x_slT, x_lenT,
  List.getElem?_cons_zero, List.getElem?_cons_succ, List.set_cons_zero, List.set_cons_succ, List.length_nil, wipeL, decide_eq_true_eq, Bool.not_eq_true', decide_eq_false_iff_not, true_and, and_true])
def h2_is_integer (tb : Tb) : XS :=
 (sRet (xAnd (xN (dIsi tb) (aCons (xVar 0) (aCons (xC (.ty "int")) aNil))) (xNot (xN (dIsi tb) (aCons (xVar 0) (aCons (xC (.ty "bool")) aNil))))))
def H2_is_integer (tb : Tb) : List D → List D → EM D := fun ds es => match (arrP 1 0 []) ds es with
  | some bs => fnB 1 (h2_is_integer tb) bs
  | none => no
def h2_is_place_1 (tb : Tb) : XS :=
 (sRet (xAnd (xCall (kChk ([] : List Str).length (H2_is_integer tb)) (aCons (x2 dIx (xVar 0) (xC (.int 0))) aNil) aNil) (xAnd (xChain dLe dLe (xC (.int 0)) (x2 dIx (xVar 0) (xC (.int 0))) (xC (.int 2))) (xCall (kChk ([] : List Str).length (H_is_name tb)) (aCons (x2 dIx (xVar 0) (xC (.int 1))) aNil) aNil))))
def h2_is_place (tb : Tb) : XS :=
 (sSeq (sIf (bOr (bNot (bV (xN (dIsi tb) (aCons (xVar 0) (aCons (xC (.ty "tuple")) aNil))))) (bV (x2 dNe (xN dLen (aCons (xVar 0) aNil)) (xC (.int 2))))) (sRet (xC (.bl false))) sNx)
 (h2_is_place_1 tb))
def H2_is_place (tb : Tb) : List D → List D → EM D := fun ds es => match (arrP 1 0 []) ds es with
  | some bs => fnB 1 (h2_is_place tb) bs
  | none => no
def h2_is_where_2 (tb : Tb) : XS :=
 (sRet (xCall (kChk ([] : List Str).length (H2_is_place tb)) (aCons (xTup (aCons (x2 dIx (xVar 0) (xC (.int 1))) (aCons (x2 dIx (xVar 0) (xC (.int 2))) aNil))) aNil) aNil))
def h2_is_where_1 (tb : Tb) : XS :=
 (sSeq (sIf (bOr (bNot (bV (xN (dIsi tb) (aCons (xVar 0) (aCons (xC (.ty "tuple")) aNil))))) (bOr (bV (x2 dNe (xN dLen (aCons (xVar 0) aNil)) (xC (.int 3)))) (bV (x2 dNe (x2 dIx (xVar 0) (xC (.int 0))) (xC (.str "lacks")))))) (sRet (xC (.bl false))) sNx)
 (h2_is_where_2 tb))
def h2_is_where (tb : Tb) : XS :=
 (sSeq (sIf (bOr (bV (x2 dIsN (xVar 0) (xC .non))) (bV (xCall (kChk ([] : List Str).length (H2_is_place tb)) (aCons (xVar 0) aNil) aNil))) (sRet (xC (.bl true))) sNx)
 (h2_is_where_1 tb))
def H2_is_where (tb : Tb) : List D → List D → EM D := fun ds es => match (arrP 1 0 []) ds es with
  | some bs => fnB 1 (h2_is_where tb) bs
  | none => no
def h2_is_erasing_4 (tb : Tb) : XS :=
 (sRet (xAnd (x2 dIn (xVar 1) (xTup (aCons (xC (.str "blank")) (aCons (xC (.str "cut")) aNil)))) (xAnd (x2 dEq (xN dLen (aCons (xVar 4) aNil)) (xC (.int 1))) (xCall (kChk ([] : List Str).length (H_is_name tb)) (aCons (x2 dIx (xVar 4) (xC (.int 0))) aNil) aNil))))
def h2_is_erasing_3 (tb : Tb) : XS :=
 (sSeq (sIf (bV (x2 dEq (xVar 1) (xC (.str "delete")))) (sRet (xNotT (xVar 4))) sNx)
 (h2_is_erasing_4 tb))
def h2_is_erasing_2 (tb : Tb) : XS :=
 (sSeq (sIf (bOr (bNot (bV (xN (dIsi tb) (aCons (xVar 1) (aCons (xC (.ty "str")) aNil))))) (bOr (bNot (bV (xCall (kChk ([] : List Str).length (H_is_name tb)) (aCons (xVar 2) aNil) aNil))) (bNot (bV (xCall (kChk ([] : List Str).length (H2_is_where tb)) (aCons (xVar 3) aNil) aNil))))) (sRet (xC (.bl false))) sNx)
 (h2_is_erasing_3 tb))
def h2_is_erasing_1 (tb : Tb) : XS :=
 (sSeq (sAsg (xVar 0) (gS 3 (gsCons (gN 1) (gsCons (gN 2) (gsCons (gN 3) (gsCons (gN 4) gsNil))))))
 (h2_is_erasing_2 tb))
def h2_is_erasing (tb : Tb) : XS :=
 (sSeq (sIf (bOr (bNot (bV (xN (dIsi tb) (aCons (xVar 0) (aCons (xC (.ty "tuple")) aNil))))) (bV (x2 dNotIn (xN dLen (aCons (xVar 0) aNil)) (xTup (aCons (xC (.int 3)) (aCons (xC (.int 4)) aNil)))))) (sRet (xC (.bl false))) sNx)
 (h2_is_erasing_1 tb))
def H2_is_erasing (tb : Tb) : List D → List D → EM D := fun ds es => match (arrP 1 0 []) ds es with
  | some bs => fnB 5 (h2_is_erasing tb) bs
  | none => no
def h2_law_odd_3 (tb : Tb) : XS :=
 (sRet (xCall (kChk ([] : List Str).length H2_law_of) (aCons (xVar 0) (aCons (x2 dAdd (xVar 1) (xLst (aCons (xTup (aCons (xC (.str "drop")) aNil)) (aCons (xLst (aCons (xC (.str "drop")) aNil)) (aCons (xTup (aCons (xC (.str "has")) (aCons (xTup (aCons (xC (.int 0)) (aCons (xC (.str "a")) aNil))) aNil))) (aCons (xTup (aCons (xC (.str "lacks")) (aCons (xC (.int 0)) (aCons (xC (.str "a")) aNil)))) (aCons (xTup (aCons (xC (.str "copy")) (aCons (xC (.str "a")) aNil))) (aCons (xTup (aCons (xC .non) (aCons (xC .non) aNil))) aNil)))))))) aNil)) aNil))
def h2_law_odd_2 (tb : Tb) : XS :=
 (sSeq (sSet 1 (x2 dAdd (xVar 1) (xLst (aCons (xLst aNil) (aCons (xLst (aCons (xC (.str "a")) aNil)) (aCons (xTup aNil) (aCons (xTup (aCons (xC (.str "a")) aNil)) (aCons (xTup (aCons (xC (.int 0)) (aCons (xC (.str "a")) aNil))) (aCons (xLst (aCons (xC (.int 0)) (aCons (xC (.str "a")) aNil))) (aCons (xTup (aCons (xC (.bl true)) (aCons (xC (.str "a")) aNil))) (aCons (xTup (aCons (xC (.int 3)) (aCons (xC (.str "a")) aNil))) (aCons (xTup (aCons (x1 dNeg (xC (.int 1))) (aCons (xC (.str "a")) aNil))) (aCons (xTup (aCons (xC (.int 0)) (aCons (xC (.str "A")) aNil))) (aCons (xTup (aCons (xC (.int 0)) (aCons (xC (.str "a")) (aCons (xC (.str "b")) aNil)))) aNil))))))))))))))
 (h2_law_odd_3 tb))
def h2_law_odd_1 (tb : Tb) : XS :=
 (sSeq (sSet 1 (x2 dAdd (xVar 1) (xLst (aCons (xC (.str "a ")) (aCons (xC (.str "it.a")) (aCons (xC (.str "a-b")) aNil))))))
 (h2_law_odd_2 tb))
def h2_law_odd (tb : Tb) : XS :=
 (sSeq (sSet 1 (xLst (aCons (xC (.int 0)) (aCons (xC (.int 1)) (aCons (x1 dNeg (xC (.int 1))) (aCons (xCall (kChk ([] : List Str).length H2_law_draw) (aCons (xVar 0) (aCons (x2 dPow (xC (.int 10)) (xC (.int 20))) aNil)) aNil) (aCons (xC (.bl true)) (aCons (xC (.bl false)) (aCons (xC .non) (aCons (xC (.str "")) (aCons (xC (.str "A")) (aCons (xC (.str "a1")) (aCons (xC (.str "abcdefghi")) (aCons (xC (.str " a")) aNil))))))))))))))
 (h2_law_odd_1 tb))
def H2_law_odd (tb : Tb) : List D → List D → EM D := fun ds es => match (arrP 1 0 []) ds es with
  | some bs => fnB 2 (h2_law_odd tb) bs
  | none => no
def h2_law_where_1 (tb : Tb) : XS :=
 (sRet (xCall (kChk ([] : List Str).length H2_law_of) (aCons (xVar 0) (aCons (xLst (aCons (xC .non) (aCons (xVar 2) (aCons (xVar 2) (aCons (x2 dAdd (xTup (aCons (xC (.str "lacks")) aNil)) (xVar 2)) aNil))))) aNil)) aNil))
def h2_law_where (tb : Tb) : XS :=
 (sSeq (sSet 2 (xTup (aCons (xCall (kChk ([] : List Str).length H2_law_draw) (aCons (xVar 0) (aCons (xC (.int 3)) aNil)) aNil) (aCons (xCall (kChk ([] : List Str).length H2_law_of) (aCons (xVar 0) (aCons (x2 dAdd (xVar 1) (xLst (aCons (xC (.str "up")) aNil))) aNil)) aNil) aNil))))
 (h2_law_where_1 tb))
def H2_law_where (tb : Tb) : List D → List D → EM D := fun ds es => match (arrP 2 0 []) ds es with
  | some bs => fnB 3 (h2_law_where tb) bs
  | none => no
def h2_law_erasing_2 (tb : Tb) : XS :=
 (sRet (xIf (bV (x2 dEq (xVar 2) (xC (.str "delete")))) (xVar 3) (x2 dAdd (xVar 3) (xTup (aCons (xCall (kChk ([] : List Str).length H2_law_of) (aCons (xVar 0) (aCons (x2 dAdd (xVar 1) (xLst (aCons (xC (.str "up")) aNil))) aNil)) aNil) aNil)))))
def h2_law_erasing_1 (tb : Tb) : XS :=
 (sSeq (sSet 3 (xTup (aCons (xVar 2) (aCons (xCall (kChk ([] : List Str).length H2_law_of) (aCons (xVar 0) (aCons (xVar 1) aNil)) aNil) (aCons (xCall (kChk ([] : List Str).length (H2_law_where tb)) (aCons (xVar 0) (aCons (xVar 1) aNil)) aNil) aNil)))))
 (h2_law_erasing_2 tb))
def h2_law_erasing (tb : Tb) : XS :=
 (sSeq (sSet 2 (xCall (kChk ([] : List Str).length H2_law_of) (aCons (xVar 0) (aCons (xLst (aCons (xC (.str "blank")) (aCons (xC (.str "cut")) (aCons (xC (.str "delete")) aNil)))) aNil)) aNil))
 (h2_law_erasing_1 tb))
def H2_law_erasing (tb : Tb) : List D → List D → EM D := fun ds es => match (arrP 2 0 []) ds es with
  | some bs => fnB 4 (h2_law_erasing tb) bs
  | none => no
def h2_law_is_name_1 (tb : Tb) : XS :=
 (sRet (xAnd (xN (dIsi tb) (aCons (xVar 0) (aCons (xC (.ty "str")) aNil))) (xAnd (xChain dLe dLe (xC (.int 1)) (xN dLen (aCons (xVar 0) aNil)) (xC (.int 8))) (xN dAll (aCons (xLc (iStr (xVar 0)) (gN 2) bYes (x2 dIn (xVar 2) (xVar 1)) [2]) aNil)))))
def h2_law_is_name (tb : Tb) : XS :=
 (sSeq (sSet 1 (xC (.str "abcdefghijklmnopqrstuvwxyz")))
 (h2_law_is_name_1 tb))
def H2_law_is_name (tb : Tb) : List D → List D → EM D := fun ds es => match (arrP 1 0 []) ds es with
  | some bs => fnB 3 (h2_law_is_name tb) bs
  | none => no
def h2_law_is_place_1 (tb : Tb) : XS :=
 (sRet (xAnd (xN (dIsi tb) (aCons (x2 dIx (xVar 0) (xC (.int 0))) (aCons (xC (.ty "int")) aNil))) (xAnd (xNot (xN (dIsi tb) (aCons (x2 dIx (xVar 0) (xC (.int 0))) (aCons (xC (.ty "bool")) aNil)))) (xChain dLe dLe (xC (.int 0)) (x2 dIx (xVar 0) (xC (.int 0))) (xC (.int 2))))))
def h2_law_is_place (tb : Tb) : XS :=
 (sSeq (sIf (bOr (bNot (bV (xN (dIsi tb) (aCons (xVar 0) (aCons (xC (.ty "tuple")) aNil))))) (bOr (bV (x2 dNe (xN dLen (aCons (xVar 0) aNil)) (xC (.int 2)))) (bNot (bV (xCall (kChk ([] : List Str).length (H2_law_is_name tb)) (aCons (x2 dIx (xVar 0) (xC (.int 1))) aNil) aNil))))) (sRet (xC (.bl false))) sNx)
 (h2_law_is_place_1 tb))
def H2_law_is_place (tb : Tb) : List D → List D → EM D := fun ds es => match (arrP 1 0 []) ds es with
  | some bs => fnB 1 (h2_law_is_place tb) bs
  | none => no
def h2_law_is_where_1 (tb : Tb) : XS :=
 (sRet (xAnd (xN (dIsi tb) (aCons (xVar 0) (aCons (xC (.ty "tuple")) aNil))) (xAnd (x2 dEq (xN dLen (aCons (xVar 0) aNil)) (xC (.int 3))) (xAnd (x2 dEq (x2 dIx (xVar 0) (xC (.int 0))) (xC (.str "lacks"))) (xCall (kChk ([] : List Str).length (H2_law_is_place tb)) (aCons (xSl (xVar 0) (oSome (xC (.int 1))) oNone) aNil) aNil)))))
def h2_law_is_where (tb : Tb) : XS :=
 (sSeq (sIf (bOr (bV (x2 dIsN (xVar 0) (xC .non))) (bV (xCall (kChk ([] : List Str).length (H2_law_is_place tb)) (aCons (xVar 0) aNil) aNil))) (sRet (xC (.bl true))) sNx)
 (h2_law_is_where_1 tb))
def H2_law_is_where (tb : Tb) : List D → List D → EM D := fun ds es => match (arrP 1 0 []) ds es with
  | some bs => fnB 1 (h2_law_is_where tb) bs
  | none => no
def h2_law_spoilt_7 (tb : Tb) (R : List D → List D → EM D) : XS :=
 (sRet (x2 dAdd (x2 dAdd (xSl (xVar 1) oNone (oSome (xVar 2))) (xTup (aCons (xCall (kChk ([] : List Str).length R) (aCons (xVar 0) (aCons (x2 dIx (xVar 1) (xVar 2)) aNil)) aNil) aNil))) (xSl (xVar 1) (oSome (x2 dAdd (xVar 2) (xC (.int 1)))) oNone)))
def h2_law_spoilt_6 (tb : Tb) (R : List D → List D → EM D) : XS :=
 (sSeq (sIf (bV (x2 dEq (xVar 3) (xC (.int 3)))) (sRet (x2 dAdd (x2 dAdd (xSl (xVar 1) oNone (oSome (xVar 2))) (xSl (xVar 1) (oSome (xVar 2)) (oSome (x2 dAdd (xVar 2) (xC (.int 1)))))) (xSl (xVar 1) (oSome (xVar 2)) oNone))) sNx)
 ((h2_law_spoilt_7 tb) R))
def h2_law_spoilt_5 (tb : Tb) (R : List D → List D → EM D) : XS :=
 (sSeq (sIf (bV (x2 dEq (xVar 3) (xC (.int 2)))) (sRet (xN dList (aCons (xVar 1) aNil))) sNx)
 ((h2_law_spoilt_6 tb) R))
def h2_law_spoilt_4 (tb : Tb) (R : List D → List D → EM D) : XS :=
 (sSeq (sIf (bV (x2 dEq (xVar 3) (xC (.int 1)))) (sRet (x2 dAdd (x2 dAdd (xSl (xVar 1) oNone (oSome (xVar 2))) (xTup (aCons (xCall (kChk ([] : List Str).length (H2_law_odd tb)) (aCons (xVar 0) aNil) aNil) aNil))) (xSl (xVar 1) (oSome (xVar 2)) oNone))) sNx)
 ((h2_law_spoilt_5 tb) R))
def h2_law_spoilt_3 (tb : Tb) (R : List D → List D → EM D) : XS :=
 (sSeq (sIf (bV (x2 dEq (xVar 3) (xC (.int 0)))) (sRet (x2 dAdd (xSl (xVar 1) oNone (oSome (xVar 2))) (xSl (xVar 1) (oSome (x2 dAdd (xVar 2) (xC (.int 1)))) oNone))) sNx)
 ((h2_law_spoilt_4 tb) R))
def h2_law_spoilt_2 (tb : Tb) (R : List D → List D → EM D) : XS :=
 (sSeq (sPar2 2 3 (aCons (xCall (kChk ([] : List Str).length H2_law_draw) (aCons (xVar 0) (aCons (xN dLen (aCons (xVar 1) aNil)) aNil)) aNil) (aCons (xCall (kChk ([] : List Str).length H2_law_draw) (aCons (xVar 0) (aCons (xC (.int 8)) aNil)) aNil) aNil)))
 ((h2_law_spoilt_3 tb) R))
def h2_law_spoilt_1 (tb : Tb) (R : List D → List D → EM D) : XS :=
 (sSeq (sIf (bV (x2 dEq (xVar 1) (xTup aNil))) (sRet (xTup (aCons (xCall (kChk ([] : List Str).length (H2_law_odd tb)) (aCons (xVar 0) aNil) aNil) aNil))) sNx)
 ((h2_law_spoilt_2 tb) R))
def h2_law_spoilt (tb : Tb) (R : List D → List D → EM D) : XS :=
 (sSeq (sIf (bOr (bNot (bV (xN (dIsi tb) (aCons (xVar 1) (aCons (xC (.ty "tuple")) aNil))))) (bV (x2 dEq (xCall (kChk ([] : List Str).length H2_law_draw) (aCons (xVar 0) (aCons (xC (.int 9)) aNil)) aNil) (xC (.int 0))))) (sRet (xCall (kChk ([] : List Str).length (H2_law_odd tb)) (aCons (xVar 0) aNil) aNil)) sNx)
 ((h2_law_spoilt_1 tb) R))
def SH2_law_spoilt (tb : Tb) (R : List D → List D → EM D) : List D → List D → EM D := fun ds es => match (arrP 2 0 []) ds es with
  | some bs => fnB 4 ((h2_law_spoilt tb) R) bs
  | none => no
def H2_law_spoilt (tb : Tb) : List D → List D → EM D := recF (SH2_law_spoilt tb) 12
def h2_law_is_same_1 (tb : Tb) (R : List D → List D → EM D) : XS :=
 (sRet (xAnd (x2 dEq (xN (dIsi tb) (aCons (xVar 0) (aCons (xC (.ty "bool")) aNil))) (xN (dIsi tb) (aCons (xVar 1) (aCons (xC (.ty "bool")) aNil)))) (x2 dEq (xVar 0) (xVar 1))))
def h2_law_is_same (tb : Tb) (R : List D → List D → EM D) : XS :=
 (sSeq (sIf (bAnd (bV (x1 (dIsiT ["list", "tuple"]) (xVar 0))) (bV (x1 (dIsiT ["list", "tuple"]) (xVar 1)))) (sSeq (sIf (bOr (bV (x2 dNe (xN (dIsi tb) (aCons (xVar 0) (aCons (xC (.ty "list")) aNil))) (xN (dIsi tb) (aCons (xVar 1) (aCons (xC (.ty "list")) aNil))))) (bV (x2 dNe (xN dLen (aCons (xVar 0) aNil)) (xN dLen (aCons (xVar 1) aNil))))) (sRet (xC (.bl false))) sNx)
 (sRet (xN dAll (aCons (xLc (iRng (xN dLen (aCons (xVar 0) aNil))) (gN 2) bYes (xCall (kChk ([] : List Str).length R) (aCons (x2 dIx (xVar 0) (xVar 2)) (aCons (x2 dIx (xVar 1) (xVar 2)) aNil)) aNil) [2]) aNil)))) sNx)
 ((h2_law_is_same_1 tb) R))
def SH2_law_is_same (tb : Tb) (R : List D → List D → EM D) : List D → List D → EM D := fun ds es => match (arrP 2 0 []) ds es with
  | some bs => fnB 3 ((h2_law_is_same tb) R) bs
  | none => no
def H2_law_is_same (tb : Tb) : List D → List D → EM D := recF (SH2_law_is_same tb) 12
def h2_law_is_step_3 (tb : Tb) : XS :=
 (sRet (xAnd (xOr (x2 dEq (x2 dIx (xVar 0) (xC (.int 0))) (xC (.str "blank"))) (x2 dEq (x2 dIx (xVar 0) (xC (.int 0))) (xC (.str "cut")))) (xCall (kChk ([] : List Str).length (H2_law_is_name tb)) (aCons (x2 dIx (xVar 0) (xC (.int 3))) aNil) aNil)))
def h2_law_is_step_2 (tb : Tb) : XS :=
 (sSeq (sIf (bV (x2 dEq (xN dLen (aCons (xVar 0) aNil)) (xC (.int 3)))) (sRet (x2 dEq (x2 dIx (xVar 0) (xC (.int 0))) (xC (.str "delete")))) sNx)
 (h2_law_is_step_3 tb))
def h2_law_is_step_1 (tb : Tb) : XS :=
 (sSeq (sIf (bOr (bNot (bV (xCall (kChk ([] : List Str).length (H2_law_is_name tb)) (aCons (x2 dIx (xVar 0) (xC (.int 1))) aNil) aNil))) (bNot (bV (xCall (kChk ([] : List Str).length (H2_law_is_where tb)) (aCons (x2 dIx (xVar 0) (xC (.int 2))) aNil) aNil)))) (sRet (xC (.bl false))) sNx)
 (h2_law_is_step_2 tb))
def h2_law_is_step (tb : Tb) : XS :=
 (sSeq (sIf (bOr (bNot (bV (xN (dIsi tb) (aCons (xVar 0) (aCons (xC (.ty "tuple")) aNil))))) (bNot (bV (xChain dLe dLe (xC (.int 3)) (xN dLen (aCons (xVar 0) aNil)) (xC (.int 4)))))) (sRet (xC (.bl false))) sNx)
 (h2_law_is_step_1 tb))
def H2_law_is_step (tb : Tb) : List D → List D → EM D := fun ds es => match (arrP 1 0 []) ds es with
  | some bs => fnB 1 (h2_law_is_step tb) bs
  | none => no
/-! the forms of places, wheres, steps of erasures: by the program and by the law -/
def isI : D → Bool
  | .int _ => true
  | _ => false
def rng02 : D → Bool
  | .int i => decide (0 ≤ i) && decide (i ≤ 2)
  | _ => false
def plB : D → Bool
  | .tup [a, b] => rng02 a && isNm b
  | _ => false
def lkB : D → Bool
  | .tup [a, b, c] => isS "lacks" a && plB (.tup [b, c])
  | _ => false
def whB (d : D) : Bool := isNon d || (plB d || lkB d)
def stB : D → Bool
  | .tup [w, x, y] => isS "delete" w && (isNm x && whB y)
  | .tup [w, x, y, p] => (isS "blank" w || isS "cut" w) && (isNm x && (whB y && isNm p))
  | _ => false
section
variable {tb : Tb} {cs : Cells} {n : Nat} {d : D} {Q : D → Cells → Prop} {E : Exn → Cells → Prop}
theorem ok_lacks : PyData.strOk "lacks" = true := by decide +kernel
theorem ok_delete : PyData.strOk "delete" = true := by decide +kernel
theorem ok_blank : PyData.strOk "blank" = true := by decide +kernel
theorem ok_cut : PyData.strOk "cut" = true := by decide +kernel
theorem e_db : (("delete" : Str) = "blank") = False := eq_false (by decide +kernel)
theorem e_dc : (("delete" : Str) = "cut") = False := eq_false (by decide +kernel)
theorem e_bd : (("blank" : Str) = "delete") = False := eq_false (by decide +kernel)
theorem e_bc : (("blank" : Str) = "cut") = False := eq_false (by decide +kernel)
theorem e_cd : (("cut" : Str) = "delete") = False := eq_false (by decide +kernel)
theorem e_cb : (("cut" : Str) = "blank") = False := eq_false (by decide +kernel)
theorem wp_nmD (h : datD d = true) : wp (H_is_name tb [d] []) cs Q E ↔ Q (.bl (isNm d)) cs := wp_eq (is_name_eq h)
theorem wp_isint (h : datD d = true) : wp (H2_is_integer tb [d] []) cs Q E ↔ Q (.bl (isI d)) cs := by
  refine wp_eq (eq_wp ?_)
  show wp (runB (h2_is_integer tb) [.val d]) cs _ _
  unfold h2_is_integer
  walk_at "w"
  simp only [isi_iD h, isi_bD h, ex_bl]
  cases d <;> simp [isIn, isBl, isI] <;> cases h
theorem tup_dat {ds : List D} (h : gdN n (.tup ds) = true) : ∀ x ∈ ds, gdN n x = true := by
  cases n with
  | zero => simp [gdN] at h
  | succ n => exact fun x hx => gdN_mono (gdN_tup.mp h x hx) (by omega)
theorem wp_place2 (h : gdN n d = true) : wp (H2_is_place tb [d] []) cs Q E ↔ Q (.bl (plB d)) cs := by
  refine wp_eq (eq_wp ?_)
  show wp (runB (h2_is_place tb) [.val d]) cs _ _
  unfold h2_is_place h2_is_place_1
  walk_at "w"
  simp only [isi_tD (gdN_dat h)]
  cases d with
  | tup ds =>
    simp only [isTup, ex_bl]
    walk_at "w"
    have hd := tup_dat h
    rcases ds with _ | ⟨a, _ | ⟨b, _ | ⟨c, r⟩⟩⟩
    · simp [plB]
    · simp [plB]
    · have ha := gdN_dat (hd a (by simp))
      have hb := gdN_dat (hd b (by simp))
      simp only [show atI [a, b] 0 = some a from rfl, show atI [a, b] 1 = some b from rfl, ex_some, wp_isint ha, wp_nmD hb, ex_bl]
      cases a with
      | int i => simp [isI, plB, rng02]; walk_at "w"; by_cases h0 : 0 ≤ i <;> by_cases h2 : i ≤ 2 <;> simp [h0, h2]
      | _ => simp [isI, plB, rng02]
    · simp [plB]
      omega
  | _ => simp [isTup, plB]
theorem wp_where2 (h : gdN n d = true) (hn : n ≤ 20) : wp (H2_is_where tb [d] []) cs Q E ↔ Q (.bl (whB d)) cs := by
  refine wp_eq (eq_wp ?_)
  show wp (runB (h2_is_where tb) [.val d]) cs _ _
  unfold h2_is_where h2_is_where_1 h2_is_where_2
  walk_at "w"
  simp only [wp_place2 h, isi_tD (gdN_dat h), ex_bl]
  cases q1 : isNon d with
  | true => simp [whB, q1]
  | false =>
    cases q2 : plB d with
    | true => simp [whB, q1, q2]
    | false =>
      simp only [Bool.false_eq_true, if_false]
      cases d with
      | tup ds =>
        simp only [isTup, ex_bl]
        walk_at "w"
        have hd := tup_dat h
        rcases ds with _ | ⟨a, _ | ⟨b, _ | ⟨c, _ | ⟨e, r⟩⟩⟩⟩
        · simp [whB, lkB, isNon, plB]
        · simp [whB, lkB, isNon, plB]
        · simp [whB, lkB, isNon, q2]
        · simp only [show atI [a, b, c] 0 = some a from rfl, show atI [a, b, c] 1 = some b from rfl, show atI [a, b, c] 2 = some c from rfl, ex_some, x_neW (hd a (by simp)) hn ok_lacks]
          have hbc : gdN (n + 1) (.tup [b, c]) = true := gdN_tup.mpr fun x hx => hd x (by simp at hx; rcases hx with rfl | rfl <;> simp)
          simp only [wp_place2 hbc, ex_bl]
          cases q3 : isS "lacks" a <;> simp [whB, lkB, isNon, q2, q3]
        · simp [whB, lkB, isNon, q2]
          omega
      | _ => simp [whB, lkB, isTup, q1, q2]
theorem in342 {m : Int} {Q : D → Prop} : (∃ r, dNotIn cs (.int m) (.tup [.int 3, .int 4]) = some r ∧ Q r) ↔ Q (.bl (!(decide (m = 3) || decide (m = 4)))) := by
  have e : dNotIn cs (.int m) (.tup [.int 3, .int 4]) = some (.bl (!(decide (m = 3) || decide (m = 4)))) := by
    show some (D.bl (!(eqF (D.int 3) (D.int m) || (eqF (D.int 4) (D.int m) || false)))) = some _
    rw [show eqF (D.int 3) (D.int m) = decide ((3 : Int) = m) from rfl, show eqF (D.int 4) (D.int m) = decide ((4 : Int) = m) from rfl]
    simp [eq_comm]
  rw [e]
  exact ex_some
theorem in_bc {w : Str} {Q : D → Prop} : (∃ r, dIn cs (.str w) (.tup [.str "blank", .str "cut"]) = some r ∧ Q r) ↔ Q (.bl (decide (w = "blank") || decide (w = "cut"))) := by
  have e : dIn cs (.str w) (.tup [.str "blank", .str "cut"]) = some (.bl (decide (w = "blank") || decide (w = "cut"))) := by
    show some (D.bl ((eqF (D.str "blank") (D.str w) || (eqF (D.str "cut") (D.str w) || false)))) = some _
    rw [show eqF (D.str "blank") (D.str w) = (("blank" : Str) == w) from rfl, show eqF (D.str "cut") (D.str w) = (("cut" : Str) == w) from rfl]
    congr 2
    rw [Bool.or_false]
    congr 1 <;> (rw [Bool.eq_iff_iff, beq_iff_eq, decide_eq_true_eq]; exact eq_comm)
  rw [e]
  exact ex_some
theorem wp_erasing2 (h : gdN n d = true) (hn : n ≤ 20) : wp (H2_is_erasing tb [d] []) cs Q E ↔ Q (.bl (stB d)) cs := by
  refine wp_eq (eq_wp ?_)
  show wp (runB (h2_is_erasing tb) [.val d, .emp, .emp, .emp, .emp]) cs _ _
  have tail : ∀ (w x y : D) (ps : List D), datD w = true → datD x = true → gdN n y = true → (∀ p ∈ ps, datD p = true) → ps.length ≤ 1 → wpS (h2_is_erasing_2 tb [.val (.tup (w :: x :: y :: ps)), .val w, .val x, .val y, .val (.lst ps)] cs) fun fl cs' => match fl with
      | .ret d => d = .bl (stB (.tup (w :: x :: y :: ps))) ∧ cs' = cs
      | .nx _ => D.non = .bl (stB (.tup (w :: x :: y :: ps))) ∧ cs' = cs
      | .ex x _ => False
      | _ => False := by
    intro w x y ps hw hx hy hp hl
    unfold h2_is_erasing_2 h2_is_erasing_3 h2_is_erasing_4
    walk_at "w"
    simp only [x_isiS hw, wp_nmD hx, wp_where2 hy hn, ex_bl]
    cases w with
    | str w =>
      simp only [isStrD]
      walk_at "w"
      rcases ps with _ | ⟨p, _ | ⟨q, r⟩⟩
      · simp only [in_bc, ex_bl]
        cases q1 : isNm x <;> cases q2 : whB y <;> by_cases q3 : w = "delete" <;> simp [stB, isS, q1, q2, q3, e_db, e_dc, e_bd, e_bc, e_cd, e_cb]
      · simp only [in_bc, ex_bl, show atI [p] 0 = some p from rfl, ex_some, wp_nmD (hp p (by simp))]
        cases q1 : isNm x <;> cases q2 : whB y <;> by_cases q3 : w = "delete" <;> by_cases q4 : w = "blank" <;> by_cases q5 : w = "cut" <;> simp [stB, isS, q1, q2, q3, q4, q5, e_db, e_dc, e_bd, e_bc, e_cd, e_cb]
      · simp at hl
    | _ => rcases ps with _ | ⟨p, _ | ⟨q, r⟩⟩ <;> simp [isStrD, stB, isS] <;> simp at hl
  unfold h2_is_erasing h2_is_erasing_1
  walk_at "w"
  simp only [isi_tD (gdN_dat h)]
  cases d with
  | tup ds =>
    simp only [isTup, ex_bl]
    walk_at "w"
    simp only [in342, ex_bl]
    have hd := tup_dat h
    rcases ds with _ | ⟨a, _ | ⟨b, _ | ⟨c, _ | ⟨e, _ | ⟨f, r⟩⟩⟩⟩⟩
    · simp [stB]
    · simp [stB]
    · simp [stB]
    · simp
      refine ⟨_, rfl, wpS_imp (tail a b c [] (gdN_dat (hd a (by simp))) (gdN_dat (hd b (by simp))) (hd c (by simp)) (by simp) (by simp)) fun fl cs' z => ?_⟩
      cases fl <;> simpa using z
    · simp
      refine ⟨_, rfl, wpS_imp (tail a b c [e] (gdN_dat (hd a (by simp))) (gdN_dat (hd b (by simp))) (hd c (by simp)) (fun p hp => by simp at hp; subst hp; exact gdN_dat (hd p (by simp))) (by simp)) fun fl cs' z => ?_⟩
      cases fl <;> simpa using z
    · have n1 : ¬ ((r.length : Int) + 1 + 1 + 1 + 1 + 1 = 3) := by omega
      have n2 : ¬ ((r.length : Int) + 1 + 1 + 1 + 1 + 1 = 4) := by omega
      simp [stB, n1, n2]
  | _ => simp [isTup, stB]
theorem lname2_eq (hd : datD d = true) : H2_law_is_name tb [d] [] cs = .ok (.bl (isNm d)) cs := by
  apply eq_wp
  show wp (runB (h2_law_is_name tb) [.val d, .emp, .emp]) cs _ _
  unfold h2_law_is_name h2_law_is_name_1
  walk_at "w"
  simp only [x_isiS hd]
  walk_at "w"
  cases d with
  | str x =>
    simp only [isStrD, if_true]
    walk_at "w"
    by_cases p : 1 ≤ (x.length : Int)
    · by_cases q : (x.length : Int) ≤ 8
      · simp only [p, q, if_true]
        have hxl : x.cps.toList.length = x.length := by simp [Str.length]
        refine ⟨by rw [List.length_map, hxl]; omega, ?_⟩
        refine comp_map (fun d => match d with | .str y => .bl (y.cps.toList.all fun c => decide (c ∈ ("abcdefghijklmnopqrstuvwxyz" : Str).cps.toList)) | _ => .non) ?_ ?_
        · intro d hd
          obtain ⟨c, hc, rfl⟩ := List.mem_map.mp hd
          refine ⟨_, rfl, ?_⟩
          walk_at "w"
          simp only [x_inS]
          simp
        · rw [List.map_map]
          have e : dAll cs [.lst (x.cps.toList.map fun c => D.bl (decide (c ∈ ("abcdefghijklmnopqrstuvwxyz" : Str).cps.toList)))] = some (.bl (nmS x)) := by
            show (blsOf _).map (fun bs => D.bl (bs.all id)) = _
            rw [blsOf_map]
            show some (D.bl _) = _
            congr 2
            have a : (x.cps.toList.map fun c => decide (c ∈ ("abcdefghijklmnopqrstuvwxyz" : Str).cps.toList)).all id = x.cps.toList.all fun c => decide (97 ≤ c) && decide (c ≤ 122) := by
              rw [List.all_map]
              congr 1
              funext c
              show decide _ = _
              rw [← Bool.decide_and]
              exact decide_eq_decide.mpr letters_mem
            rw [a]
            unfold nmS
            rw [decide_eq_true (show 1 ≤ x.length by omega), decide_eq_true (show x.length ≤ 8 by omega)]
            rfl
          refine ⟨_, ?_, rfl, rfl⟩
          refine Eq.trans ?_ e
          congr 3
          apply List.map_congr_left
          intro c _
          show D.bl _ = D.bl _
          simp
      · simp only [p, q, if_true, if_false]
        show D.bl false = .bl (nmS x)
        rw [nm_cut (by omega)]
    · simp only [p, if_false]
      show D.bl false = .bl (nmS x)
      rw [nm_cut (by omega)]
  | _ =>
    simp only [isStrD, Bool.false_eq_true, if_false]
    first
    | rfl
    | cases hd
theorem wp_lname2 (h : datD d = true) : wp (H2_law_is_name tb [d] []) cs Q E ↔ Q (.bl (isNm d)) cs := wp_eq (lname2_eq h)
theorem wp_lplace2 (h : gdN n d = true) : wp (H2_law_is_place tb [d] []) cs Q E ↔ Q (.bl (plB d)) cs := by
  refine wp_eq (eq_wp ?_)
  show wp (runB (h2_law_is_place tb) [.val d]) cs _ _
  unfold h2_law_is_place h2_law_is_place_1
  walk_at "w"
  simp only [isi_tD (gdN_dat h)]
  cases d with
  | tup ds =>
    simp only [isTup, ex_bl]
    walk_at "w"
    have hd := tup_dat h
    rcases ds with _ | ⟨a, _ | ⟨b, _ | ⟨c, r⟩⟩⟩
    · simp [plB]
    · simp [plB]
    · have ha := gdN_dat (hd a (by simp))
      have hb := gdN_dat (hd b (by simp))
      simp only [show atI [a, b] 0 = some a from rfl, show atI [a, b] 1 = some b from rfl, ex_some, wp_lname2 hb, isi_iD ha, isi_bD ha, ex_bl]
      cases q : isNm b with
      | false => simp [plB, q]
      | true =>
        cases a with
        | int i => simp [isIn, isBl, plB, rng02, q]; walk_at "w"; by_cases h0 : 0 ≤ i <;> by_cases h2 : i ≤ 2 <;> simp [h0, h2] <;> (show some (D.bl (decide (i ≤ 2))) = _; simp [h2])
        | _ => simp [isIn, isBl, plB, rng02, q]
    · simp [plB]
      omega
  | _ => simp [isTup, plB]
theorem wp_lwhere2 (h : gdN n d = true) (hn : n ≤ 20) : wp (H2_law_is_where tb [d] []) cs Q E ↔ Q (.bl (whB d)) cs := by
  refine wp_eq (eq_wp ?_)
  show wp (runB (h2_law_is_where tb) [.val d]) cs _ _
  unfold h2_law_is_where h2_law_is_where_1
  walk_at "w"
  simp only [wp_lplace2 h, isi_tD (gdN_dat h), ex_bl]
  cases q1 : isNon d with
  | true => simp [whB, q1]
  | false =>
    cases q2 : plB d with
    | true => simp [whB, q1, q2]
    | false =>
      simp only [Bool.false_eq_true, if_false]
      cases d with
      | tup ds =>
        simp only [isTup, ex_bl, if_true]
        walk_at "w"
        have hd := tup_dat h
        rcases ds with _ | ⟨a, _ | ⟨b, _ | ⟨c, _ | ⟨e, r⟩⟩⟩⟩
        · simp [whB, lkB, isNon, plB]
        · simp [whB, lkB, isNon, plB]
        · simp [whB, lkB, isNon, q2]
        · simp only [show atI [a, b, c] 0 = some a from rfl, ex_some, x_eqW (hd a (by simp)) hn ok_lacks, show cutD [a, b, c] (some 1) none = [b, c] from cut_drop (k := 1)]
          have hbc : gdN (n + 1) (.tup [b, c]) = true := gdN_tup.mpr fun x hx => hd x (by simp at hx; rcases hx with rfl | rfl <;> simp)
          simp only [wp_lplace2 hbc, ex_bl]
          cases q3 : isS "lacks" a <;> simp [whB, lkB, isNon, q2, q3]
        · have n1 : ¬ ((r.length : Int) + 1 + 1 + 1 + 1 = 3) := by omega
          simp [whB, lkB, isNon, q2, n1]
      | _ => simp [whB, lkB, isTup, q1, q2]
theorem wp_lstep2 (h : gdN n d = true) (hn : n ≤ 20) : wp (H2_law_is_step tb [d] []) cs Q E ↔ Q (.bl (stB d)) cs := by
  refine wp_eq (eq_wp ?_)
  show wp (runB (h2_law_is_step tb) [.val d]) cs _ _
  unfold h2_law_is_step h2_law_is_step_1 h2_law_is_step_2 h2_law_is_step_3
  walk_at "w"
  simp only [isi_tD (gdN_dat h)]
  cases d with
  | tup ds =>
    simp only [isTup, ex_bl]
    walk_at "w"
    have hd := tup_dat h
    rcases ds with _ | ⟨a, _ | ⟨b, _ | ⟨c, _ | ⟨e, _ | ⟨f, r⟩⟩⟩⟩⟩
    · simp [stB]
    · simp [stB]
    · simp [stB]
    · simp only [show atI [a, b, c] 0 = some a from rfl, show atI [a, b, c] 1 = some b from rfl, show atI [a, b, c] 2 = some c from rfl, ex_some, wp_lname2 (gdN_dat (hd b (by simp))), wp_lwhere2 (hd c (by simp)) hn, x_eqW (hd a (by simp)) hn ok_delete, ex_bl]
      cases q1 : isNm b <;> cases q2 : whB c <;> simp [stB, q1, q2]
    · simp only [show atI [a, b, c, e] 0 = some a from rfl, show atI [a, b, c, e] 1 = some b from rfl, show atI [a, b, c, e] 2 = some c from rfl, show atI [a, b, c, e] 3 = some e from rfl, ex_some, wp_lname2 (gdN_dat (hd b (by simp))), wp_lname2 (gdN_dat (hd e (by simp))), wp_lwhere2 (hd c (by simp)) hn, x_eqW (hd a (by simp)) hn ok_blank, x_eqW (hd a (by simp)) hn ok_cut, ex_bl]
      cases q1 : isNm b <;> cases q2 : whB c <;> cases q3 : isS "blank" a <;> cases q4 : isS "cut" a <;> simp [stB, q1, q2, q3, q4]
    · have n1 : ¬ ((r.length : Int) + 1 + 1 + 1 + 1 + 1 ≤ 4) := by omega
      simp [stB, n1]
  | _ => simp [isTup, stB]
end
end F

namespace F
open PySem L2
local macro_rules | `(tactic| walk_at "w") => `(tactic| simp only [w_run, w_var, w_c, w_1, w_2, w_N, w_bV, w_bNot, w_bOr, w_bAnd, w_xOr, w_xAnd, w_xNot, w_xIf, w_aNil, w_aCons, w_aStar, w_tup, w_lst, w_tupS, w_lstS, w_lstC, w_listC, w_oNone, w_oSome, w_sl, w_join, w_call, w_callS, w_chk, w_at, w_lenO, w_chain, w_tru, w_inO, w_xf, w_isX, w_eq, w_lc, w_iSeq, w_iEnu, w_iStr, w_iRng, w_yes, w_notT, w_binI, w_lenI, w_iEnuT,
  s_seq, s_nx, s_set, s_drop, s_ret, s_retN, s_if, s_asg, s_par2, s_par3, s_raise, s_ownC, s_ownL, s_mutO, s_own, s_addO, s_fldO, s_for, s_setI, s_turn,
  ex_some, ex_if, ex_none, ex_bl, ex_int, ex_str, x_addI, x_addS, x_addT, x_addL, x_sub, x_mul, x_mod, x_div, x_pow, x_lt, x_le, x_gt, x_ge, x_neg, x_int, x_abs, x_min, x_max, x_lenS, x_lenL, x_lenW, x_lenT, x_eqS, x_neS, x_eqI, x_neI, x_isN, x_notN, x_ixL, x_ixW, x_ixT, x_ixS, x_tupL, x_tupT, x_frzL, x_frzT, x_frzW, x_enuL, x_enuT, x_seqL, x_seqT, x_gN, x_g2, x_listT, x_truL, x_slT, x_lenT,
  List.getElem?_cons_zero, List.getElem?_cons_succ, List.set_cons_zero, List.set_cons_succ, List.length_nil, wipeL, decide_eq_true_eq, Bool.not_eq_true', decide_eq_false_iff_not, true_and, and_true])
/-! data of bounded depth and width: odd objects, what is spoilt, what is the same -/
def gwN (w : Nat) : Nat → D → Bool
  | _, .non => true
  | _, .bl _ => true
  | _, .int _ => true
  | _, .str x => PyData.strOk x
  | n + 1, .tup ds => decide (ds.length ≤ w) && ds.all (gwN w n)
  | n + 1, .lst ds => decide (ds.length ≤ w) && ds.all (gwN w n)
  | _, _ => false
theorem gwN_tup {w n : Nat} {ds : List D} : gwN w (n + 1) (.tup ds) = true ↔ ds.length ≤ w ∧ ∀ d ∈ ds, gwN w n d = true := by
  rw [gwN, Bool.and_eq_true, List.all_eq_true, decide_eq_true_eq]
theorem gwN_lst {w n : Nat} {ds : List D} : gwN w (n + 1) (.lst ds) = true ↔ ds.length ≤ w ∧ ∀ d ∈ ds, gwN w n d = true := by
  rw [gwN, Bool.and_eq_true, List.all_eq_true, decide_eq_true_eq]
theorem gwN_gd {w : Nat} : ∀ {n : Nat} {d : D}, gwN w n d = true → gdN n d = true
  | n, .non, _ => by cases n <;> rfl
  | n, .bl b, _ => by cases n <;> rfl
  | n, .int i, _ => by cases n <;> rfl
  | n, .str x, h => by cases n <;> simpa [gwN, gdN] using h
  | 0, .tup ds, h => by simp [gwN] at h
  | n + 1, .tup ds, h => gdN_tup.mpr fun d hd => gwN_gd ((gwN_tup.mp h).2 d hd)
  | 0, .lst ds, h => by simp [gwN] at h
  | n + 1, .lst ds, h => gdN_lst.mpr fun d hd => gwN_gd ((gwN_lst.mp h).2 d hd)
  | n, .wls ds, h => by cases n <;> simp [gwN] at h
  | n, .ins c fs, h => by cases n <;> simp [gwN] at h
  | n, .cel c, h => by cases n <;> simp [gwN] at h
  | n, .cls c, h => by cases n <;> simp [gwN] at h
  | n, .ty c, h => by cases n <;> simp [gwN] at h
theorem gwN_mono {w w' : Nat} (hw : w ≤ w') : ∀ {n m : Nat} {d : D}, gwN w n d = true → n ≤ m → gwN w' m d = true
  | n, m, .non, _, _ => by cases m <;> rfl
  | n, m, .bl b, _, _ => by cases m <;> rfl
  | n, m, .int i, _, _ => by cases m <;> rfl
  | n, m, .str x, h, _ => by
    have h : PyData.strOk x = true := by cases n <;> simpa [gwN] using h
    cases m <;> simpa [gwN] using h
  | 0, m, .tup ds, h, _ => by simp [gwN] at h
  | n + 1, 0, .tup ds, h, le => by omega
  | n + 1, m + 1, .tup ds, h, le => gwN_tup.mpr ⟨Nat.le_trans (gwN_tup.mp h).1 hw, fun d hd => gwN_mono hw ((gwN_tup.mp h).2 d hd) (by omega)⟩
  | 0, m, .lst ds, h, _ => by simp [gwN] at h
  | n + 1, 0, .lst ds, h, le => by omega
  | n + 1, m + 1, .lst ds, h, le => gwN_lst.mpr ⟨Nat.le_trans (gwN_lst.mp h).1 hw, fun d hd => gwN_mono hw ((gwN_lst.mp h).2 d hd) (by omega)⟩
  | n, m, .wls ds, h, _ => by cases n <;> simp [gwN] at h
  | n, m, .ins c fs, h, _ => by cases n <;> simp [gwN] at h
  | n, m, .cel c, h, _ => by cases n <;> simp [gwN] at h
  | n, m, .cls c, h, _ => by cases n <;> simp [gwN] at h
  | n, m, .ty c, h, _ => by cases n <;> simp [gwN] at h
theorem gwN_nm {w n : Nat} {x : Str} (h : nmS x = true) : gwN w n (.str x) = true := by
  cases n <;> exact strOk_nm h
section
variable {tb : Tb} {cs : Cells} {b N : Nat} {Q : D → Cells → Prop} {E : Exn → Cells → Prop}
theorem odd2_wp (hb : Bag cs b (N + 2)) (k : ∀ d cs', gwN 3 2 d = true → Bag cs' b N → Kp b cs cs' → Q d cs') : wp (H2_law_odd tb [.cel b] []) cs Q E := by
  show wp (runB (h2_law_odd tb) [.val (.cel b), .emp]) cs Q E
  unfold h2_law_odd h2_law_odd_1 h2_law_odd_2 h2_law_odd_3
  walk_at "w"
  refine ⟨by decide +kernel, ?_⟩
  rw [show (10 : Int) ^ (20 : Int).toNat = 100000000000000000000 by decide +kernel]
  refine draw2_wp (n := N + 1) hb (by decide) (by decide) fun r cs1 r0 r1 hb1 kp1 => ?_
  refine ⟨rfl, rfl, rfl, ?_⟩
  refine of2_wp (n := N) hb1 (by simp) (by simp) fun i x cs2 hx hb2 kp2 => ?_
  refine k x cs2 ?_ hb2 (kp1.trans kp2)
  have hm := List.mem_of_getElem? hx
  simp only [List.mem_append, List.mem_cons, List.not_mem_nil, or_false] at hm
  rcases hm with ((hm | hm) | hm) | hm
  · rcases hm with rfl | rfl | rfl | rfl | rfl | rfl | rfl | rfl | rfl | rfl | rfl | rfl <;> first | rfl | decide +kernel
  · rcases hm with rfl | rfl | rfl <;> decide +kernel
  · rcases hm with rfl | rfl | rfl | rfl | rfl | rfl | rfl | rfl | rfl | rfl | rfl <;> decide +kernel
  · rcases hm with rfl | rfl | rfl | rfl | rfl | rfl <;> decide +kernel
end
theorem cut_mem {xs : List D} {a b : Option Int} {d : D} (h : d ∈ cutD xs a b) : d ∈ xs := List.mem_of_mem_drop (List.mem_of_mem_take h)
theorem cut_len {xs : List D} {a b : Option Int} : (cutD xs a b).length ≤ xs.length := by
  unfold cutD
  rw [List.length_take, List.length_drop]
  omega
theorem gw_app {w n : Nat} {xs ys : List D} {m : Nat} (hx : ∀ d ∈ xs, gwN w n d = true) (hy : ∀ d ∈ ys, gwN w n d = true) (hl : xs.length + ys.length ≤ m) (hm : w ≤ m) : gwN m (n + 1) (.tup (xs ++ ys)) = true := gwN_tup.mpr ⟨by simp; omega, fun d hd => gwN_mono hm ((List.mem_append.mp hd).elim (hx d) (hy d)) (Nat.le_refl _)⟩
theorem spoilt_wp {tb : Tb} {b : Nat} : ∀ {m n w N : Nat} {d : D} {cs : Cells} {Q : D → Cells → Prop} {E : Exn → Cells → Prop}, gwN w n d = true → 3 ≤ w → w ≤ 1000 → n ≤ 15 → n < m → Bag cs b (N + (3 * n + 2)) → (∀ d cs', gwN (3 * w + 1) (n + 2) d = true → Bag cs' b N → Kp b cs cs' → Q d cs') → wp (recF (SH2_law_spoilt tb) m [.cel b, d] []) cs Q E
  | 0, n, w, N, d, cs, Q, E, _, _, _, _, h, _, _ => absurd h (Nat.not_lt_zero _)
  | m + 1, n, w, N, d, cs, Q, E, hd, hw3, hw, hn15, hm, hb, k => by
    show wp (runB (h2_law_spoilt tb (recF (SH2_law_spoilt tb) m)) [.val (.cel b), .val d, .emp, .emp]) cs Q E
    unfold h2_law_spoilt
    walk_at "w"
    simp only [isi_tD (gdN_dat (gwN_gd hd)), ex_bl]
    have odd : ∀ {cs1 : Cells} {M : Nat}, Bag cs1 b (N + (M + 2)) → Kp b cs cs1 → wp (H2_law_odd tb [.cel b] []) cs1 Q E := fun {cs1 M} hb1 kp1 => odd2_wp (N := N) (hb1.mono (by omega)) fun d cs2 g2 hb2 kp2 => k d cs2 (gwN_mono (by omega) g2 (by omega)) hb2 (kp1.trans kp2)
    cases d with
    | tup ds =>
      simp only [isTup, Bool.not_true, Bool.false_eq_true, if_false]
      cases n with
      | zero => simp [gwN] at hd
      | succ n =>
        obtain ⟨hl, he⟩ := gwN_tup.mp hd
        refine draw2_wp (n := N + (3 * n + 4)) (hb.mono (by omega)) (by decide) (by decide) fun r cs1 r0 r1 hb1 kp1 => ?_
        walk_at "w"
        by_cases hr : r = 0
        · simp only [hr, decide_true, if_true]
          exact odd (M := 3 * n + 2) (hb1.mono (by omega)) kp1
        · simp only [hr, decide_false, Bool.false_eq_true, if_false]
          unfold h2_law_spoilt_1
          walk_at "w"
          have hok : ∀ x ∈ ds, okD x = true := fun x hx => gdN_okD (gwN_gd (he x hx)) (by omega)
          rw [x_eqT hok (by simp)]
          cases ds with
          | nil =>
            simp only [show dqA [] [] = true from rfl, ex_bl, if_true]
            refine odd2_wp (N := N) (hb1.mono (by omega)) fun d cs2 g2 hb2 kp2 => ?_
            refine k _ cs2 (gwN_tup.mpr ⟨by simp, fun x hx => ?_⟩) hb2 (kp1.trans kp2)
            simp only [List.mem_cons, List.not_mem_nil, or_false] at hx
            subst hx
            exact gwN_mono (by omega) g2 (by omega)
          | cons x0 xr =>
            rw [dqA_len (by simp)]
            simp only [ex_bl, Bool.false_eq_true, if_false]
            unfold h2_law_spoilt_2 h2_law_spoilt_3 h2_law_spoilt_4 h2_law_spoilt_5 h2_law_spoilt_6 h2_law_spoilt_7
            walk_at "w"
            have hlw : ((x0 :: xr).length : Int) ≤ 1000 := by omega
            generalize hds : x0 :: xr = ds at *
            have hne : 0 < ds.length := by rw [← hds]; simp
            refine draw2_wp (n := N + (3 * n + 3)) (hb1.mono (by omega)) (by omega) (by omega) fun kk cs2 k0 k1 hb2 kp2 => ?_
            refine draw2_wp (n := N + (3 * n + 2)) hb2 (by decide) (by decide) fun c cs3 c0 c1 hb3 kp3 => ?_
            have kp := (kp1.trans kp2).trans kp3
            walk_at "w"
            have cl : ∀ a b, (cutD ds a b).length ≤ ds.length := fun a b => cut_len
            have cm : ∀ a b, ∀ d ∈ cutD ds a b, gwN (3 * w + 1) (n + 2) d = true := fun a b d hd => gwN_mono (by omega) (he d (cut_mem hd)) (by omega)
            have fin : ∀ (u v y : List D) {cs4 : Cells}, u.length + v.length + y.length ≤ 3 * w + 1 → (∀ d ∈ u, gwN (3 * w + 1) (n + 2) d = true) → (∀ d ∈ v, gwN (3 * w + 1) (n + 2) d = true) → (∀ d ∈ y, gwN (3 * w + 1) (n + 2) d = true) → Bag cs4 b N → Kp b cs cs4 → Q (.tup (u ++ v ++ y)) cs4 := fun u v y cs4 hl hu hv hy hb4 kp4 => by
              refine k _ cs4 (gwN_tup.mpr ⟨by simp; omega, fun x hx => ?_⟩) hb4 kp4
              rcases List.mem_append.mp hx with hx | hx
              · rcases List.mem_append.mp hx with hx | hx
                · exact hu x hx
                · exact hv x hx
              · exact hy x hx
            have ft : ∀ {p : Nat}, p ≤ 3 * w + 1 → fitB p = true := fun {p} hp => decide_eq_true (by omega)
            have one : ∀ {d : D}, gwN (3 * w + 1) (n + 2) d = true → ∀ x ∈ [d], gwN (3 * w + 1) (n + 2) x = true := fun {d} hd x hx => by
              simp only [List.mem_cons, List.not_mem_nil, or_false] at hx
              subst hx
              exact hd
            have l1 := cl none (some kk)
            have l2 := cl (some (kk + 1)) none
            have l3 := cl (some kk) none
            have l4 := cl (some kk) (some (kk + 1))
            have m1 := cm none (some kk)
            have m2 := cm (some (kk + 1)) none
            have m3 := cm (some kk) none
            have m4 := cm (some kk) (some (kk + 1))
            split
            · refine ⟨ft (by omega), ?_⟩
              have z := fin (cutD ds none (some kk)) [] (cutD ds (some (kk + 1)) none) (by simp; omega) m1 (by simp) m2 (hb3.mono (by omega)) kp
              rw [List.append_nil] at z
              exact z
            split
            · refine odd2_wp (N := N) (hb3.mono (by omega)) fun d cs4 g4 hb4 kp4 => ⟨ft (by simp; omega), ft (by simp; omega), ?_⟩
              exact fin _ [d] _ (by simp; omega) m1 (one (gwN_mono (by omega) g4 (by omega))) m3 hb4 (kp.trans kp4)
            split
            · exact k _ cs3 (gwN_lst.mpr ⟨by omega, fun x hx => gwN_mono (by omega) (he x hx) (by omega)⟩) (hb3.mono (by omega)) kp
            split
            · refine ⟨ft (by omega), ft (by simp; omega), ?_⟩
              exact fin _ _ _ (by omega) m1 m4 m3 (hb3.mono (by omega)) kp
            · have hk : kk.toNat < ds.length := by omega
              have hg : ds[kk.toNat]? = some ds[kk.toNat] := List.getElem?_eq_getElem hk
              refine ⟨ds[kk.toNat], _root_.E.atI_of k0 hg, ?_⟩
              refine spoilt_wp (N := N) (he _ (List.getElem_mem hk)) hw3 hw (by omega) (by omega) (hb3.mono (by omega)) fun d cs4 g4 hb4 kp4 => ⟨ft (by simp; omega), ft (by simp; omega), ?_⟩
              exact fin _ [d] _ (by simp; omega) m1 (one g4) m2 hb4 (kp.trans kp4)
    | _ =>
      simp only [isTup, Bool.not_false, if_true]
      exact odd (M := 3 * n) (hb.mono (by omega)) .refl

theorem same_refl {tb : Tb} : ∀ {m n : Nat} {d : D} {cs : Cells}, gwN 1000 n d = true → n < m → recF (SH2_law_is_same tb) m [d, d] [] cs = .ok (.bl true) cs
  | 0, n, d, cs, _, h => absurd h (Nat.not_lt_zero _)
  | m + 1, n, d, cs, hd, hm => by
    apply eq_wp
    show wp (runB (h2_law_is_same tb (recF (SH2_law_is_same tb) m)) [.val d, .val d, .emp]) cs _ _
    have hdat := gdN_dat (gwN_gd hd)
    have sq : ∀ {ds : List D} {n' : Nat}, n = n' + 1 → ds.length ≤ 1000 → (∀ x ∈ ds, gwN 1000 n' x = true) → (∀ {i : Nat} {x : D} {Q : D → Prop}, ds[i]? = some x → ((∃ r, dIx cs d (.int i) = some r ∧ Q r) ↔ Q x)) → wp (compL (gN 2) bYes (xCall (kChk ([] : List Str).length (recF (SH2_law_is_same tb) m)) (aCons (x2 dIx (xVar 0) (xVar 2)) (aCons (x2 dIx (xVar 1) (xVar 2)) aNil)) aNil) [Sl.val d, Sl.val d, Sl.emp] ((List.range ds.length).map fun (i : Nat) => D.int i)) cs (fun ys cs2 => ∃ r, dAll cs2 [.lst ys] = some r ∧ r = .bl true ∧ cs2 = cs) fun _ _ => False := by
      intro ds n' hn hl he hix
      refine comp_map (fun _ => .bl true) ?_ ?_
      · intro x hx
        obtain ⟨i, hi, rfl⟩ := List.mem_map.mp hx
        have hi2 : i < ds.length := List.mem_range.mp hi
        refine ⟨_, rfl, ?_⟩
        walk_at "w"
        rw [hix (List.getElem?_eq_getElem hi2), hix (List.getElem?_eq_getElem hi2)]
        rw [wp_eq (same_refl (he _ (List.getElem_mem hi2)) (by omega))]
        simp
      · refine ⟨.bl true, ?_, rfl, rfl⟩
        show (blsOf _).map (fun bs => D.bl (bs.all id)) = _
        rw [List.map_map, show (List.map ((fun _ => D.bl true) ∘ fun (i : Nat) => D.int i) (List.range ds.length)) = (List.range ds.length).map (fun (x : Nat) => D.bl ((fun _ => true) x)) from rfl, blsOf_map]
        simp
    unfold h2_law_is_same h2_law_is_same_1
    walk_at "w"
    simp only [isi_lt hdat, isi_lD hdat, isi_bD hdat, ex_bl]
    cases d with
    | tup ds =>
      cases n with
      | zero => simp [gwN] at hd
      | succ n =>
        obtain ⟨hl, he⟩ := gwN_tup.mp hd
        simp only [isLst, isTup, Bool.or_true, if_true]
        walk_at "w"
        refine ⟨_, rfl, false, rfl, ?_⟩
        simp only [Bool.false_eq_true, if_false, not_true]
        rw [Int.toNat_natCast]
        refine ⟨by omega, by simp; omega, sq rfl hl he fun {i x Q} hx => ?_⟩
        exact x_ixT.trans (by rw [atI_nat hx]; exact ex_some)
    | lst ds =>
      cases n with
      | zero => simp [gwN] at hd
      | succ n =>
        obtain ⟨hl, he⟩ := gwN_lst.mp hd
        simp only [isLst, isTup, Bool.or_false, if_true]
        walk_at "w"
        refine ⟨_, rfl, false, rfl, ?_⟩
        simp only [Bool.false_eq_true, if_false, not_true]
        rw [Int.toNat_natCast]
        refine ⟨by omega, by simp; omega, sq rfl hl he fun {i x Q} hx => ?_⟩
        exact x_ixL.trans (by rw [atI_nat hx]; exact ex_some)
    | non => simp [isLst, isTup, isBl]; exact ⟨_, rfl, rfl, rfl⟩
    | bl b => simp [isLst, isTup, isBl]; exact ⟨_, rfl, rfl, by cases b <;> rfl⟩
    | int i => simp [isLst, isTup, isBl]; exact ⟨_, rfl, rfl, by show some (D.bl (decide (i = i))) = _; simp⟩
    | str x => simp [isLst, isTup, isBl]; exact ⟨_, rfl, rfl, by show some (D.bl (decide (x = x))) = _; simp⟩
    | _ => cases hdat
end F

namespace F
open PySem L2
local macro_rules | `(tactic| walk_at "w") => `(tactic| simp only [w_run, w_var, w_c, w_1, w_2, w_N, w_bV, w_bNot, w_bOr, w_bAnd, w_xOr, w_xAnd, w_xNot, w_xIf, w_aNil, w_aCons, w_aStar, w_tup, w_lst, w_tupS, w_lstS, w_lstC, w_listC, w_oNone, w_oSome, w_sl, w_join, w_call, w_callS, w_chk, w_at, w_lenO, w_chain, w_tru, w_inO, w_xf, w_isX, w_eq, w_lc, w_iSeq, w_iEnu, w_iStr, w_iRng, w_yes, w_notT, w_binI, w_lenI, w_iEnuT,
  s_seq, s_nx, s_set, s_drop, s_ret, s_retN, s_if, s_asg, s_par2, s_par3, s_raise, s_ownC, s_ownL, s_mutO, s_own, s_addO, s_fldO, s_for, s_setI, s_turn,
  ex_some, ex_if, ex_none, ex_bl, ex_int, ex_str, x_addI, x_addS, x_addT, x_addL, x_sub, x_mul, x_mod, x_div, x_pow, x_lt, x_le, x_gt, x_ge, x_neg, x_int, x_abs, x_min, x_max, x_lenS, x_lenL, x_lenW, x_lenT, x_eqS, x_neS, x_eqI, x_neI, x_isN, x_notN, x_ixL, x_ixW, x_ixT, x_ixS, x_tupL, x_tupT, x_frzL, x_frzT, x_frzW, x_enuL, x_enuT, x_seqL, x_seqT, x_gN, x_g2, x_listT, x_truL, x_slT, x_lenT,
  List.getElem?_cons_zero, List.getElem?_cons_succ, List.set_cons_zero, List.set_cons_succ, List.length_nil, wipeL, decide_eq_true_eq, Bool.not_eq_true', decide_eq_false_iff_not, true_and, and_true])
/-! steps of erasures as they are drawn -/
/-- the forms of a where -/
def WhereD (d : D) : Prop := d = .non ∨ (∃ i x, d = .tup [.int i, .str x] ∧ 0 ≤ i ∧ i ≤ 2 ∧ nmS x = true) ∨ ∃ i x, d = .tup [.str "lacks", .int i, .str x] ∧ 0 ≤ i ∧ i ≤ 2 ∧ nmS x = true
/-- the forms of a step -/
def StepD (d : D) : Prop := (∃ x wh, d = .tup [.str "delete", .str x, wh] ∧ nmS x = true ∧ WhereD wh) ∨ ∃ w x wh p, d = .tup [.str w, .str x, wh, .str p] ∧ (w = "blank" ∨ w = "cut") ∧ nmS x = true ∧ WhereD wh ∧ nmS p = true
theorem where2_wp {tb : Tb} {cs : Cells} {b n : Nat} {ws : List Str} {Q : D → Cells → Prop} {E : Exn → Cells → Prop} (hw : WordsOk 6 ws) (hb : Bag cs b (n + 3)) (k : ∀ d cs', WhereD d → Bag cs' b n → Kp b cs cs' → Q d cs') : wp (H2_law_where tb [.cel b, .lst (ws.map D.str)] []) cs Q E := by
  show wp (runB (h2_law_where tb) [.val (.cel b), .val (.lst (ws.map D.str)), .emp]) cs Q E
  unfold h2_law_where h2_law_where_1
  walk_at "w"
  refine draw2_wp (n := n + 2) hb (by decide) (by decide) fun r cs1 r0 r1 hb1 kp1 => ?_
  refine ⟨by unfold fitB; simp [hw.len], ?_⟩
  refine of2_wp (n := n + 1) hb1 (by simp) (by simp [hw.len]) fun i x cs2 hx hb2 kp2 => ?_
  obtain ⟨y, rfl, hy⟩ : ∃ y, x = .str y ∧ nmS y = true := by
    have hm := List.mem_of_getElem? hx
    rcases List.mem_append.mp hm with hm | hm
    · obtain ⟨y, h1, rfl⟩ := List.mem_map.mp hm
      exact ⟨y, rfl, hw.nm y h1⟩
    · simp at hm
      exact ⟨"up", hm, by decide +kernel⟩
  try walk_at "w"
  refine ⟨by unfold fitB; simp, ?_⟩
  refine of2_wp (n := n) hb2 (by simp) (by simp) fun i x cs3 hx hb3 kp3 => ?_
  refine k x cs3 ?_ hb3 ((kp1.trans kp2).trans kp3)
  have hm := List.mem_of_getElem? hx
  simp only [List.mem_cons, List.not_mem_nil, or_false] at hm
  rcases hm with rfl | rfl | rfl | rfl
  · exact .inl rfl
  · exact .inr (.inl ⟨r, y, rfl, r0, by omega, hy⟩)
  · exact .inr (.inl ⟨r, y, rfl, r0, by omega, hy⟩)
  · exact .inr (.inr ⟨r, y, rfl, r0, by omega, hy⟩)
theorem erasing2_wp {tb : Tb} {cs : Cells} {b n : Nat} {ws : List Str} {Q : D → Cells → Prop} {E : Exn → Cells → Prop} (hw : WordsOk 6 ws) (hb : Bag cs b (n + 6)) (k : ∀ d cs', StepD d → Bag cs' b n → Kp b cs cs' → Q d cs') : wp (H2_law_erasing tb [.cel b, .lst (ws.map D.str)] []) cs Q E := by
  show wp (runB (h2_law_erasing tb) [.val (.cel b), .val (.lst (ws.map D.str)), .emp, .emp]) cs Q E
  unfold h2_law_erasing h2_law_erasing_1 h2_law_erasing_2
  walk_at "w"
  refine of2_wp (n := n + 5) hb (by simp) (by simp) fun i x cs1 hx hb1 kp1 => ?_
  have ne : ws.map D.str ≠ [] := by intro h; have := congrArg List.length h; simp [hw.len] at this
  refine of2_wp (n := n + 4) hb1 ne (by simp [hw.len]) fun i y cs2 hy hb2 kp2 => ?_
  obtain ⟨y, h1, rfl⟩ := List.mem_map.mp (List.mem_of_getElem? hy)
  have hy := hw.nm y h1
  refine where2_wp (n := n + 1) hw hb2 fun wh cs3 hwh hb3 kp3 => ?_
  have hm := List.mem_of_getElem? hx
  simp only [List.mem_cons, List.not_mem_nil, or_false] at hm
  have other : ∀ w : Str, w = "blank" ∨ w = "cut" → wp (H2_law_of [.cel b, .lst (ws.map D.str ++ [.str "up"])] []) cs3 (fun d cs' => fitB (3 + 1) = true ∧ Q (.tup ([.str w, .str y, wh] ++ [d])) cs') E := by
    intro w hk
    refine of2_wp (n := n) hb3 (by simp) (by simp [hw.len]) fun i p cs4 hp0 hb4 kp4 => ?_
    obtain ⟨p, rfl, hp⟩ : ∃ q, p = .str q ∧ nmS q = true := by
      have hm := List.mem_of_getElem? hp0
      rcases List.mem_append.mp hm with hm | hm
      · obtain ⟨q, h1, rfl⟩ := List.mem_map.mp hm
        exact ⟨q, rfl, hw.nm q h1⟩
      · simp at hm
        exact ⟨"up", hm, by decide +kernel⟩
    exact ⟨rfl, k _ cs4 (.inr ⟨w, y, wh, p, rfl, hk, hy, hwh, hp⟩) hb4 (((kp1.trans kp2).trans kp3).trans kp4)⟩
  have fit7 : fitB ((ws.map D.str).length + [D.str "up"].length) = true := by unfold fitB; simp [hw.len]
  rcases hm with rfl | rfl | rfl
  · walk_at "w"
    rw [if_neg (by decide +kernel)]
    exact ⟨fit7, other "blank" (.inl rfl)⟩
  · walk_at "w"
    rw [if_neg (by decide +kernel)]
    exact ⟨fit7, other "cut" (.inr rfl)⟩
  · walk_at "w"
    rw [if_pos trivial]
    exact k _ cs3 (.inl ⟨y, wh, rfl, hy, hwh⟩) (hb3.mono (by omega)) ((kp1.trans kp2).trans kp3)
theorem where_gw {d : D} (h : WhereD d) : gwN 3 1 d = true := by
  have two : ∀ {xs : List D}, xs.length ≤ 3 → (∀ x ∈ xs, gwN 3 0 x = true) → gwN 3 1 (.tup xs) = true := fun h1 h2 => gwN_tup.mpr ⟨h1, h2⟩
  rcases h with rfl | ⟨i, x, rfl, h0, h2, hx⟩ | ⟨i, x, rfl, h0, h2, hx⟩
  · rfl
  · refine two (by simp) fun y hy => ?_
    simp only [List.mem_cons, List.not_mem_nil, or_false] at hy
    rcases hy with rfl | rfl
    · rfl
    · exact gwN_nm hx
  · refine two (by simp) fun y hy => ?_
    simp only [List.mem_cons, List.not_mem_nil, or_false] at hy
    rcases hy with rfl | rfl | rfl
    · exact gwN_nm (by decide +kernel)
    · rfl
    · exact gwN_nm hx
theorem step_gw {d : D} (h : StepD d) : gwN 4 2 d = true := by
  rcases h with ⟨x, wh, rfl, hx, hw⟩ | ⟨w, x, wh, p, rfl, hk, hx, hw, hp⟩
  · refine gwN_tup.mpr ⟨by simp, fun y hy => ?_⟩
    simp only [List.mem_cons, List.not_mem_nil, or_false] at hy
    rcases hy with rfl | rfl | rfl
    · exact gwN_nm (by decide +kernel)
    · exact gwN_nm hx
    · exact gwN_mono (by decide) (where_gw hw) (by decide)
  · refine gwN_tup.mpr ⟨by simp, fun y hy => ?_⟩
    simp only [List.mem_cons, List.not_mem_nil, or_false] at hy
    rcases hy with rfl | rfl | rfl | rfl
    · rcases hk with rfl | rfl <;> exact gwN_nm (by decide +kernel)
    · exact gwN_nm hx
    · exact gwN_mono (by decide) (where_gw hw) (by decide)
    · exact gwN_nm hp
/-! == of lists -/
theorem eqB_dqL {cs : Cells} {xs ys : List D} (hx : ∀ d ∈ xs, okD d = true) (hy : ∀ d ∈ ys, okD d = true) : eqB cs (.lst xs) (.lst ys) = some (dqA xs ys) := by
  obtain ⟨ps, e, a, b, c, _⟩ := toPs_ok hx
  obtain ⟨qs, e', a', b', c', _⟩ := toPs_ok hy
  unfold dqA
  show eqP cs (.lst xs) (.lst ys) = _
  rw [eqP_of (p := .list ps) (q := .list qs) (toP_lst e) (toP_lst e') (shapedL a b) (shapedL a' b'), PyData.eqv, e, e']
theorem dqA_nil {xs : List D} : dqA xs [] = xs.isEmpty := by
  cases xs with
  | nil => rfl
  | cons x xs => exact dqA_len (by simp)
theorem x_eqL0 {cs : Cells} {xs : List D} {Q : D → Prop} (hx : ∀ d ∈ xs, okD d = true) : (∃ r, dEq cs (.lst xs) (.lst []) = some r ∧ Q r) ↔ Q (.bl xs.isEmpty) := by
  show (∃ r, (eqB cs (.lst xs) (.lst [])).map _ = some r ∧ Q r) ↔ _
  rw [eqB_dqL hx (by simp), dqA_nil]
  exact ex_some
theorem x_neL0 {cs : Cells} {xs : List D} {Q : D → Prop} (hx : ∀ d ∈ xs, okD d = true) : (∃ r, dNe cs (.lst xs) (.lst []) = some r ∧ Q r) ↔ Q (.bl (!xs.isEmpty)) := by
  show (∃ r, (eqB cs (.lst xs) (.lst [])).map _ = some r ∧ Q r) ↔ _
  rw [eqB_dqL hx (by simp), dqA_nil]
  exact ex_some
theorem num_of {xs : List Int} {m : Nat} (hx : ∀ x ∈ xs, 0 ≤ x ∧ x ≤ m) {i : Nat} {x : D} (h : (xs.map D.int)[i]? = some x) : ∃ j : Nat, x = .int (j : Int) ∧ j ≤ m := by
  obtain ⟨z, hz, rfl⟩ := List.mem_map.mp (List.mem_of_getElem? h)
  have := hx z hz
  exact ⟨z.toNat, by rw [Int.toNat_of_nonneg this.1], by omega⟩
/-- a comprehension with a test, both pure -/
theorem comp_filt {g : XG} {t : XB} {fa : XE} {l : Loc} {cs : Cells} {U : List D → Cells → Prop} {E : Exn → Cells → Prop} {ds : List D} (p : D → Bool) (h : D → D)
    (step : ∀ d ∈ ds, ∃ l1, g d l cs = some l1 ∧ wp (t l1) cs (fun k cs1 => k = p d ∧ cs1 = cs) (fun _ _ => False) ∧ wp (fa l1) cs (fun y cs2 => y = h d ∧ cs2 = cs) fun _ _ => False) (q : U ((ds.filter p).map h) cs) : wp (compL g t fa l ds) cs U E := by
  refine comp_inv (fun i acc cs' => cs' = cs ∧ acc = ((ds.take i).filter p).map h) ⟨rfl, by simp⟩ ?_ ?_
  · rintro i d acc cs1 hi ⟨rfl, rfl⟩
    obtain ⟨l1, e, w1, w2⟩ := step d (List.mem_of_getElem? hi)
    refine ⟨l1, e, wp_imp w1 (fun k cs2 ⟨pk, ec⟩ => ?_) fun _ _ h => h⟩
    subst pk ec
    cases hp : p d with
    | true =>
      simp only [if_true]
      refine wp_imp w2 (fun y cs3 ⟨py, ec⟩ => ⟨ec, ?_⟩) fun _ _ h => h
      rw [List.take_succ, hi, py]
      simp [hp]
    | false =>
      rw [if_neg Bool.false_ne_true]
      refine ⟨rfl, ?_⟩
      rw [List.take_succ, hi]
      simp [hp]
  · rintro acc cs1 ⟨rfl, rfl⟩
    rw [List.take_length]
    exact q
theorem numb_len : ∀ {xs : List D} {k : Nat}, (numbered k xs).length = xs.length
  | [], _ => rfl
  | x :: xs, k => congrArg (· + 1) (numb_len (xs := xs) (k := k + 1))
/-- the indexes of a list at which p fails, as they are told -/
def badAt (p : D → Bool) (ss : List D) (k : Nat) : Bool := match ss[k]? with
  | some d => !p d
  | none => false
def wrong (p : D → Bool) (ss : List D) : Option Nat := (List.range ss.length).find? (badAt p ss)
def wrongs (p : D → Bool) (ss : List D) : List D := ((List.range ss.length).filter (badAt p ss)).map fun (k : Nat) => D.int k
theorem wrongs_none {p : D → Bool} {ss : List D} (h : wrong p ss = none) : wrongs p ss = [] := by
  unfold wrongs
  unfold wrong at h
  rw [← List.head?_filter] at h
  rw [List.head?_eq_none_iff.mp h]
  rfl
theorem wrongs_some {p : D → Bool} {ss : List D} {k : Nat} (h : wrong p ss = some k) : ∃ r, wrongs p ss = .int k :: r := by
  unfold wrongs
  unfold wrong at h
  rw [← List.head?_filter] at h
  obtain ⟨r, hr⟩ := List.head?_eq_some_iff.mp h
  rw [hr]
  exact ⟨_, rfl⟩
theorem okD_int {i : Int} : okD (.int i) = true := okN_int
theorem wrongs_ok {p : D → Bool} {ss : List D} : ∀ d ∈ wrongs p ss, okD d = true := fun d hd => by
  obtain ⟨k, _, rfl⟩ := List.mem_map.mp hd
  exact okD_int
theorem wrong_at {p : D → Bool} {ss : List D} {i : Nat} {x : D} (hx : ss[i]? = some x) (hp : p x = false) (hj : ∀ j, j < i → badAt p ss j = false) : wrong p ss = some i := by
  unfold wrong
  rw [List.find?_range_eq_some]
  refine ⟨by unfold badAt; rw [hx]; dsimp only; rw [hp]; rfl, List.mem_range.mpr (List.getElem?_eq_some_iff.mp hx).1, fun j hj2 => by rw [hj j hj2]; rfl⟩
theorem wrong_no {p : D → Bool} {ss : List D} (hj : ∀ j, j < ss.length → badAt p ss j = false) : wrong p ss = none := by
  unfold wrong
  rw [List.find?_eq_none]
  intro j hj2
  rw [hj j (List.mem_range.mp hj2)]
  decide
theorem bad_next {p : D → Bool} {ss : List D} {i : Nat} {x : D} (hx : ss[i]? = some x) (hp : p x = true) (hj : ∀ j, j < i → badAt p ss j = false) : ∀ j, j < i + 1 → badAt p ss j = false := fun j hj2 => by
  by_cases hji : j = i
  · subst hji
    unfold badAt
    rw [hx]
    dsimp only
    rw [hp]
    rfl
  · exact hj j (by omega)
/-- [k for k in range(len(ss)) if not p(ss[k])] -/
theorem comp_wrong {g : XG} {t : XB} {fa : XE} {l : Loc} {cs : Cells} {U : List D → Cells → Prop} {E : Exn → Cells → Prop} {p : D → Bool} {ss : List D}
    (step : ∀ (k : Nat) (x : D), ss[k]? = some x → ∃ l1, g (.int k) l cs = some l1 ∧ wp (t l1) cs (fun b cs1 => b = (!p x) ∧ cs1 = cs) (fun _ _ => False) ∧ wp (fa l1) cs (fun y cs2 => y = .int k ∧ cs2 = cs) fun _ _ => False) (q : U (wrongs p ss) cs) : wp (compL g t fa l ((List.range ss.length).map fun (k : Nat) => D.int k)) cs U E := by
  refine comp_filt (fun d => match d with | .int k => badAt p ss k.toNat | _ => false) id ?_ ?_
  · intro d hd
    obtain ⟨k, hk, rfl⟩ := List.mem_map.mp hd
    have hx := List.getElem?_eq_getElem (List.mem_range.mp hk)
    obtain ⟨l1, e, w1, w2⟩ := step k _ hx
    refine ⟨l1, e, wp_imp w1 (fun b cs1 ⟨h1, h2⟩ => ⟨?_, h2⟩) fun _ _ h => h, w2⟩
    rw [h1]
    show _ = badAt p ss (k : Int).toNat
    rw [Int.toNat_natCast]
    unfold badAt
    rw [hx]
  · have e : List.map id (List.filter (fun d => match d with | .int k => badAt p ss k.toNat | _ => false) ((List.range ss.length).map fun (k : Nat) => D.int k)) = wrongs p ss := by
      unfold wrongs
      rw [List.map_id, List.filter_map]
      congr 1
    rw [e]
    exact q
end F

namespace F
open PySem L2
local macro_rules | `(tactic| walk_at "w") => `(tactic| simp only [w_run, w_var, w_c, w_1, w_2, w_N, w_bV, w_bNot, w_bOr, w_bAnd, w_xOr, w_xAnd, w_xNot, w_xIf, w_aNil, w_aCons, w_aStar, w_tup, w_lst, w_tupS, w_lstS, w_lstC, w_listC, w_oNone, w_oSome, w_sl, w_join, w_call, w_callS, w_chk, w_at, w_lenO, w_chain, w_tru, w_inO, w_xf, w_isX, w_eq, w_lc, w_iSeq, w_iEnu, w_iStr, w_iRng, w_yes, w_notT, w_binI, w_lenI, w_iEnuT,
  s_seq, s_nx, s_set, s_drop, s_ret, s_retN, s_if, s_asg, s_par2, s_par3, s_raise, s_ownC, s_ownL, s_mutO, s_own, s_addO, s_fldO, s_for, s_setI, s_turn,
  ex_some, ex_if, ex_none, ex_bl, ex_int, ex_str, x_addI, x_addS, x_addT, x_addL, x_sub, x_mul, x_mod, x_div, x_pow, x_lt, x_le, x_gt, x_ge, x_neg, x_int, x_abs, x_min, x_max, x_lenS, x_lenL, x_lenW, x_lenT, x_eqS, x_neS, x_eqI, x_neI, x_isN, x_notN, x_ixL, x_ixW, x_ixT, x_ixS, x_tupL, x_tupT, x_frzL, x_frzT, x_frzW, x_enuL, x_enuT, x_seqL, x_seqT, x_gN, x_g2, x_listT, x_truL, x_slT, x_lenT,
  List.getElem?_cons_zero, List.getElem?_cons_succ, List.set_cons_zero, List.set_cons_succ, List.length_nil, wipeL, decide_eq_true_eq, Bool.not_eq_true', decide_eq_false_iff_not, true_and, and_true])
def h3_is_end (tb : Tb) : XS :=
 (sRet (xOr (xCall (kChk ([] : List Str).length (H_is_name tb)) (aCons (xVar 0) aNil) aNil) (xCall (kChk ([] : List Str).length (H2_is_place tb)) (aCons (xVar 0) aNil) aNil)))
def H3_is_end (tb : Tb) : List D → List D → EM D := fun ds es => match (arrP 1 0 []) ds es with
  | some bs => fnB 1 (h3_is_end tb) bs
  | none => no
def h3_is_to (tb : Tb) : XS :=
 (sRet (xOr (x2 dIsN (xVar 0) (xC .non)) (xCall (kChk ([] : List Str).length (H3_is_end tb)) (aCons (xVar 0) aNil) aNil)))
def H3_is_to (tb : Tb) : List D → List D → EM D := fun ds es => match (arrP 1 0 []) ds es with
  | some bs => fnB 1 (h3_is_to tb) bs
  | none => no
def h3_is_source_3 (tb : Tb) : XS :=
 (sRet (xAnd (x2 dEq (xVar 1) (xC (.str "work"))) (xAnd (x2 dLe (xN dLen (aCons (xVar 2) aNil)) (xC (.int 3))) (xN dAll (aCons (xLc (iSeq (xVar 2)) (gN 3) bYes (xCall (kChk ([] : List Str).length (H3_is_end tb)) (aCons (xVar 3) aNil) aNil) [3]) aNil)))))
def h3_is_source_2 (tb : Tb) : XS :=
 (sSeq (sIf (bV (x2 dEq (xVar 1) (xC (.str "copy")))) (sRet (xAnd (x2 dEq (xN dLen (aCons (xVar 2) aNil)) (xC (.int 1))) (xCall (kChk ([] : List Str).length (H3_is_end tb)) (aCons (x2 dIx (xVar 2) (xC (.int 0))) aNil) aNil))) sNx)
 (h3_is_source_3 tb))
def h3_is_source_1 (tb : Tb) : XS :=
 (sSeq (sAsg (xVar 0) (gS 1 (gsCons (gN 1) (gsCons (gN 2) gsNil))))
 (h3_is_source_2 tb))
def h3_is_source (tb : Tb) : XS :=
 (sSeq (sIf (bOr (bNot (bV (xN (dIsi tb) (aCons (xVar 0) (aCons (xC (.ty "tuple")) aNil))))) (bNot (bTru (xVar 0)))) (sRet (xC (.bl false))) sNx)
 (h3_is_source_1 tb))
def H3_is_source (tb : Tb) : List D → List D → EM D := fun ds es => match (arrP 1 0 []) ds es with
  | some bs => fnB 4 (h3_is_source tb) bs
  | none => no
def T3_fits (tb : Tb) : EqT := [("is_to", H3_is_to tb), ("is_source", H3_is_source tb)]
def h3_are_pairs_3 (tb : Tb) : XS :=
 (sRet (xC (.bl true)))
def h3_are_pairs_2 (tb : Tb) : XS :=
 (sSeq (sFor (iSeq (xVar 0)) (gN 3) (sSeq (sIf (bOr (bNot (bV (xN (dIsi tb) (aCons (xVar 3) (aCons (xC (.ty "tuple")) aNil))))) (bOr (bV (x2 dNe (xN dLen (aCons (xVar 3) aNil)) (xC (.int 2)))) (bNot (bV (xCall (kChk ([] : List Str).length (H_is_name tb)) (aCons (x2 dIx (xVar 3) (xC (.int 0))) aNil) aNil))))) (sRet (xC (.bl false))) sNx)
 (sSeq (sIf (bOr (bInO false 2 (x2 dIx (xVar 3) (xC (.int 0)))) (bNot (bV (xCallV (T3_fits tb) ([] : List Str).length 1 (aCons (x2 dIx (xVar 3) (xC (.int 1))) aNil) aNil)))) (sRet (xC (.bl false))) sNx)
 (sAddO 2 (x2 dIx (xVar 3) (xC (.int 0)))))))
 (h3_are_pairs_3 tb))
def h3_are_pairs_1 (tb : Tb) : XS :=
 (sSeq (sOwn 2 (.set []))
 (h3_are_pairs_2 tb))
def h3_are_pairs (tb : Tb) : XS :=
 (sSeq (sIf (bNot (bV (xN (dIsi tb) (aCons (xVar 0) (aCons (xC (.ty "tuple")) aNil))))) (sRet (xC (.bl false))) sNx)
 (h3_are_pairs_1 tb))
def H3_are_pairs (tb : Tb) : List D → List D → EM D := fun ds es => match (arrP 2 0 []) ds es with
  | some bs => fnB 4 (h3_are_pairs tb) bs
  | none => no
def h3_is_make_3 (tb : Tb) : XS :=
 (sRet (xAnd (xCall (kChk ([] : List Str).length (H3_are_pairs tb)) (aCons (xVar 3) (aCons (xC (.cls "is_to")) aNil)) aNil) (xCall (kChk ([] : List Str).length (H3_are_pairs tb)) (aCons (xVar 4) (aCons (xC (.cls "is_source")) aNil)) aNil)))
def h3_is_make_2 (tb : Tb) : XS :=
 (sSeq (sIf (bOr (bNot (bV (xCall (kChk ([] : List Str).length (H_is_name tb)) (aCons (xVar 1) aNil) aNil))) (bAnd (bV (x2 dNotN (xVar 2) (xC .non))) (bOr (bNot (bV (xCall (kChk ([] : List Str).length (H2_is_integer tb)) (aCons (xVar 2) aNil) aNil))) (bNot (bV (xChain dLe dLe (xC (.int 0)) (xVar 2) (xC (.int 2)))))))) (sRet (xC (.bl false))) sNx)
 (h3_is_make_3 tb))
def h3_is_make_1 (tb : Tb) : XS :=
 (sSeq (sAsg (xVar 0) (gL 4 (gsCons (gN 1) (gsCons (gN 2) (gsCons (gN 3) (gsCons (gN 4) gsNil))))))
 (h3_is_make_2 tb))
def h3_is_make (tb : Tb) : XS :=
 (sSeq (sIf (bV (x2 dNe (xN dLen (aCons (xVar 0) aNil)) (xC (.int 4)))) (sRet (xC (.bl false))) sNx)
 (h3_is_make_1 tb))
def H3_is_make (tb : Tb) : List D → List D → EM D := fun ds es => match (arrP 1 0 []) ds es with
  | some bs => fnB 5 (h3_is_make tb) bs
  | none => no
def h3_is_guard_1 (tb : Tb) : XS :=
 (sRet (xAnd (x2 dIn (xVar 0) (xTup (aCons (xC (.str "has")) (aCons (xC (.str "lacks")) (aCons (xC (.str "lives")) aNil))))) (xAnd (x2 dEq (xN dLen (aCons (xVar 1) aNil)) (xC (.int 1))) (xCall (kChk ([] : List Str).length (H2_is_place tb)) (aCons (x2 dIx (xVar 1) (xC (.int 0))) aNil) aNil))))
def h3_is_guard (tb : Tb) : XS :=
 (sSeq (sIf (bV (x2 dEq (xVar 0) (xC (.str "same")))) (sRet (xAnd (x2 dEq (xN dLen (aCons (xVar 1) aNil)) (xC (.int 2))) (xAnd (xCall (kChk ([] : List Str).length (H3_is_end tb)) (aCons (x2 dIx (xVar 1) (xC (.int 0))) aNil) aNil) (xCall (kChk ([] : List Str).length (H3_is_end tb)) (aCons (x2 dIx (xVar 1) (xC (.int 1))) aNil) aNil)))) sNx)
 (h3_is_guard_1 tb))
def H3_is_guard (tb : Tb) : List D → List D → EM D := fun ds es => match (arrP 2 0 []) ds es with
  | some bs => fnB 2 (h3_is_guard tb) bs
  | none => no
def h3_is_step_5 (tb : Tb) : XS :=
 (sRet (xOr (xAnd (x2 dIn (xVar 1) (xTup (aCons (xC (.str "leave")) (aCons (xC (.str "drop")) aNil)))) (xNotT (xVar 2))) (xCall (kChk ([] : List Str).length (H3_is_guard tb)) (aCons (xVar 1) (aCons (xVar 2) aNil)) aNil)))
def h3_is_step_4 (tb : Tb) : XS :=
 (sSeq (sIf (bV (x2 dEq (xVar 1) (xC (.str "make")))) (sRet (xCall (kChk ([] : List Str).length (H3_is_make tb)) (aCons (xVar 2) aNil) aNil)) sNx)
 (h3_is_step_5 tb))
def h3_is_step_3 (tb : Tb) : XS :=
 (sSeq (sIf (bV (x2 dEq (xVar 1) (xC (.str "point")))) (sRet (xAnd (x2 dEq (xN dLen (aCons (xVar 2) aNil)) (xC (.int 2))) (xAnd (xCall (kChk ([] : List Str).length (H_is_name tb)) (aCons (x2 dIx (xVar 2) (xC (.int 0))) aNil) aNil) (xCall (kChk ([] : List Str).length (H3_is_to tb)) (aCons (x2 dIx (xVar 2) (xC (.int 1))) aNil) aNil)))) sNx)
 (h3_is_step_4 tb))
def h3_is_step_2 (tb : Tb) : XS :=
 (sSeq (sIf (bV (x2 dEq (xVar 1) (xC (.str "set")))) (sRet (xAnd (x2 dEq (xN dLen (aCons (xVar 2) aNil)) (xC (.int 2))) (xAnd (xCall (kChk ([] : List Str).length (H_is_name tb)) (aCons (x2 dIx (xVar 2) (xC (.int 0))) aNil) aNil) (xCall (kChk ([] : List Str).length (H3_is_source tb)) (aCons (x2 dIx (xVar 2) (xC (.int 1))) aNil) aNil)))) sNx)
 (h3_is_step_3 tb))
def h3_is_step_1 (tb : Tb) : XS :=
 (sSeq (sAsg (xVar 0) (gS 1 (gsCons (gN 1) (gsCons (gN 2) gsNil))))
 (h3_is_step_2 tb))
def h3_is_step (tb : Tb) : XS :=
 (sSeq (sIf (bOr (bNot (bV (xN (dIsi tb) (aCons (xVar 0) (aCons (xC (.ty "tuple")) aNil))))) (bOr (bNot (bTru (xVar 0))) (bNot (bV (xN (dIsi tb) (aCons (x2 dIx (xVar 0) (xC (.int 0))) (aCons (xC (.ty "str")) aNil))))))) (sRet (xC (.bl false))) sNx)
 (h3_is_step_1 tb))
def H3_is_step (tb : Tb) : List D → List D → EM D := fun ds es => match (arrP 1 0 []) ds es with
  | some bs => fnB 3 (h3_is_step tb) bs
  | none => no
def h3_law_is_int (tb : Tb) : XS :=
 (sRet (xAnd (xN (dIsi tb) (aCons (xVar 0) (aCons (xC (.ty "int")) aNil))) (xAnd (xNot (xN (dIsi tb) (aCons (xVar 0) (aCons (xC (.ty "bool")) aNil)))) (xChain dLe dLe (xVar 1) (xVar 0) (xVar 2)))))
def H3_law_is_int (tb : Tb) : List D → List D → EM D := fun ds es => match (arrP 3 0 []) ds es with
  | some bs => fnB 3 (h3_law_is_int tb) bs
  | none => no
def h3_law_is_place (tb : Tb) : XS :=
 (sRet (xAnd (xN (dIsi tb) (aCons (xVar 0) (aCons (xC (.ty "tuple")) aNil))) (xAnd (x2 dEq (xN dLen (aCons (xVar 0) aNil)) (xC (.int 2))) (xAnd (xCall (kChk ([] : List Str).length (H3_law_is_int tb)) (aCons (x2 dIx (xVar 0) (xC (.int 0))) (aCons (xC (.int 0)) (aCons (xC (.int 2)) aNil))) aNil) (xCall (kChk ([] : List Str).length (H2_law_is_name tb)) (aCons (x2 dIx (xVar 0) (xC (.int 1))) aNil) aNil)))))
def H3_law_is_place (tb : Tb) : List D → List D → EM D := fun ds es => match (arrP 1 0 []) ds es with
  | some bs => fnB 1 (h3_law_is_place tb) bs
  | none => no
def h3_law_is_end (tb : Tb) : XS :=
 (sRet (xOr (xCall (kChk ([] : List Str).length (H2_law_is_name tb)) (aCons (xVar 0) aNil) aNil) (xCall (kChk ([] : List Str).length (H3_law_is_place tb)) (aCons (xVar 0) aNil) aNil)))
def H3_law_is_end (tb : Tb) : List D → List D → EM D := fun ds es => match (arrP 1 0 []) ds es with
  | some bs => fnB 1 (h3_law_is_end tb) bs
  | none => no
def h3_law_is_source_1 (tb : Tb) : XS :=
 (sRet (xOr (xAnd (x2 dEq (x2 dIx (xVar 0) (xC (.int 0))) (xC (.str "copy"))) (x2 dEq (xN dLen (aCons (xVar 0) aNil)) (xC (.int 2)))) (xAnd (x2 dEq (x2 dIx (xVar 0) (xC (.int 0))) (xC (.str "work"))) (x2 dLe (xN dLen (aCons (xVar 0) aNil)) (xC (.int 4))))))
def h3_law_is_source (tb : Tb) : XS :=
 (sSeq (sIf (bOr (bNot (bV (xN (dIsi tb) (aCons (xVar 0) (aCons (xC (.ty "tuple")) aNil))))) (bOr (bV (x2 dEq (xN dLen (aCons (xVar 0) aNil)) (xC (.int 0)))) (bNot (bV (xN dAll (aCons (xLc (iSeq (xSl (xVar 0) (oSome (xC (.int 1))) oNone)) (gN 1) bYes (xCall (kChk ([] : List Str).length (H3_law_is_end tb)) (aCons (xVar 1) aNil) aNil) [1]) aNil)))))) (sRet (xC (.bl false))) sNx)
 (h3_law_is_source_1 tb))
def H3_law_is_source (tb : Tb) : List D → List D → EM D := fun ds es => match (arrP 1 0 []) ds es with
  | some bs => fnB 2 (h3_law_is_source tb) bs
  | none => no
def h3_law_are_pairs_3 (tb : Tb) : XS :=
 (sSeq (sFrz 2) (sRet (xC (.bl true))))
def h3_law_are_pairs_2 (tb : Tb) : XS :=
 (sSeq (sFor (iSeq (xVar 0)) (gN 3) (sSeq (sIf (bOr (bNot (bV (xN (dIsi tb) (aCons (xVar 3) (aCons (xC (.ty "tuple")) aNil))))) (bOr (bV (x2 dNe (xN dLen (aCons (xVar 3) aNil)) (xC (.int 2)))) (bOr (bNot (bV (xCall (kChk ([] : List Str).length (H2_law_is_name tb)) (aCons (x2 dIx (xVar 3) (xC (.int 0))) aNil) aNil))) (bInL false 2 (x2 dIx (xVar 3) (xC (.int 0))))))) (sRet (xC (.bl false))) sNx)
 (sSeq (sMutO 2 gApp (aCons (x2 dIx (xVar 3) (xC (.int 0))) aNil))
 (sSeq (sIf (bAnd (bV (xVar 1)) (bNot (bV (xCall (kChk ([] : List Str).length (H3_law_is_source tb)) (aCons (x2 dIx (xVar 3) (xC (.int 1))) aNil) aNil)))) (sRet (xC (.bl false))) sNx)
 (sIf (bAnd (bNot (bV (xVar 1))) (bAnd (bV (x2 dNotN (x2 dIx (xVar 3) (xC (.int 1))) (xC .non))) (bNot (bV (xCall (kChk ([] : List Str).length (H3_law_is_end tb)) (aCons (x2 dIx (xVar 3) (xC (.int 1))) aNil) aNil))))) (sRet (xC (.bl false))) sNx)))))
 (h3_law_are_pairs_3 tb))
def h3_law_are_pairs_1 (tb : Tb) : XS :=
 (sSeq (sOwnL 2 aNil)
 (h3_law_are_pairs_2 tb))
def h3_law_are_pairs (tb : Tb) : XS :=
 (sSeq (sIf (bNot (bV (xN (dIsi tb) (aCons (xVar 0) (aCons (xC (.ty "tuple")) aNil))))) (sRet (xC (.bl false))) sNx)
 (h3_law_are_pairs_1 tb))
def H3_law_are_pairs (tb : Tb) : List D → List D → EM D := fun ds es => match (arrP 2 0 []) ds es with
  | some bs => fnB 4 (h3_law_are_pairs tb) bs
  | none => no
def h3_law_is_step_9 (tb : Tb) : XS :=
 (sRet (xAnd (xCall (kChk ([] : List Str).length (H3_law_are_pairs tb)) (aCons (x2 dIx (xVar 0) (xC (.int 3))) (aCons (xC (.bl false)) aNil)) aNil) (xCall (kChk ([] : List Str).length (H3_law_are_pairs tb)) (aCons (x2 dIx (xVar 0) (xC (.int 4))) (aCons (xC (.bl true)) aNil)) aNil)))
def h3_law_is_step_8 (tb : Tb) : XS :=
 (sSeq (sIf (bAnd (bV (x2 dNotN (x2 dIx (xVar 0) (xC (.int 2))) (xC .non))) (bNot (bV (xCall (kChk ([] : List Str).length (H3_law_is_int tb)) (aCons (x2 dIx (xVar 0) (xC (.int 2))) (aCons (xC (.int 0)) (aCons (xC (.int 2)) aNil))) aNil)))) (sRet (xC (.bl false))) sNx)
 (h3_law_is_step_9 tb))
def h3_law_is_step_7 (tb : Tb) : XS :=
 (sSeq (sIf (bOr (bV (x2 dNe (xVar 1) (xC (.str "make")))) (bOr (bV (x2 dNe (xVar 2) (xC (.int 5)))) (bNot (bV (xCall (kChk ([] : List Str).length (H2_law_is_name tb)) (aCons (x2 dIx (xVar 0) (xC (.int 1))) aNil) aNil))))) (sRet (xC (.bl false))) sNx)
 (h3_law_is_step_8 tb))
def h3_law_is_step_6 (tb : Tb) : XS :=
 (sSeq (sIf (bV (x2 dEq (xVar 1) (xC (.str "point")))) (sRet (xAnd (x2 dEq (xVar 2) (xC (.int 3))) (xAnd (xCall (kChk ([] : List Str).length (H2_law_is_name tb)) (aCons (x2 dIx (xVar 0) (xC (.int 1))) aNil) aNil) (xOr (x2 dIsN (x2 dIx (xVar 0) (xC (.int 2))) (xC .non)) (xCall (kChk ([] : List Str).length (H3_law_is_end tb)) (aCons (x2 dIx (xVar 0) (xC (.int 2))) aNil) aNil))))) sNx)
 (h3_law_is_step_7 tb))
def h3_law_is_step_5 (tb : Tb) : XS :=
 (sSeq (sIf (bV (x2 dEq (xVar 1) (xC (.str "set")))) (sRet (xAnd (x2 dEq (xVar 2) (xC (.int 3))) (xAnd (xCall (kChk ([] : List Str).length (H2_law_is_name tb)) (aCons (x2 dIx (xVar 0) (xC (.int 1))) aNil) aNil) (xCall (kChk ([] : List Str).length (H3_law_is_source tb)) (aCons (x2 dIx (xVar 0) (xC (.int 2))) aNil) aNil)))) sNx)
 (h3_law_is_step_6 tb))
def h3_law_is_step_4 (tb : Tb) : XS :=
 (sSeq (sIf (bV (x2 dEq (xVar 1) (xC (.str "same")))) (sRet (xAnd (x2 dEq (xVar 2) (xC (.int 3))) (xAnd (xCall (kChk ([] : List Str).length (H3_law_is_end tb)) (aCons (x2 dIx (xVar 0) (xC (.int 1))) aNil) aNil) (xCall (kChk ([] : List Str).length (H3_law_is_end tb)) (aCons (x2 dIx (xVar 0) (xC (.int 2))) aNil) aNil)))) sNx)
 (h3_law_is_step_5 tb))
def h3_law_is_step_3 (tb : Tb) : XS :=
 (sSeq (sIf (bV (x2 dIn (xVar 1) (xLst (aCons (xC (.str "has")) (aCons (xC (.str "lacks")) (aCons (xC (.str "lives")) aNil)))))) (sRet (xAnd (x2 dEq (xVar 2) (xC (.int 2))) (xCall (kChk ([] : List Str).length (H3_law_is_place tb)) (aCons (x2 dIx (xVar 0) (xC (.int 1))) aNil) aNil))) sNx)
 (h3_law_is_step_4 tb))
def h3_law_is_step_2 (tb : Tb) : XS :=
 (sSeq (sIf (bV (x2 dIn (xVar 1) (xLst (aCons (xC (.str "leave")) (aCons (xC (.str "drop")) aNil))))) (sRet (x2 dEq (xVar 2) (xC (.int 1)))) sNx)
 (h3_law_is_step_3 tb))
def h3_law_is_step_1 (tb : Tb) : XS :=
 (sSeq (sPar2 1 2 (aCons (x2 dIx (xVar 0) (xC (.int 0))) (aCons (xN dLen (aCons (xVar 0) aNil)) aNil)))
 (h3_law_is_step_2 tb))
def h3_law_is_step (tb : Tb) : XS :=
 (sSeq (sIf (bOr (bNot (bV (xN (dIsi tb) (aCons (xVar 0) (aCons (xC (.ty "tuple")) aNil))))) (bOr (bV (x2 dEq (xN dLen (aCons (xVar 0) aNil)) (xC (.int 0)))) (bNot (bV (xN (dIsi tb) (aCons (x2 dIx (xVar 0) (xC (.int 0))) (aCons (xC (.ty "str")) aNil))))))) (sRet (xC (.bl false))) sNx)
 (h3_law_is_step_1 tb))
def H3_law_is_step (tb : Tb) : List D → List D → EM D := fun ds es => match (arrP 1 0 []) ds es with
  | some bs => fnB 3 (h3_law_is_step tb) bs
  | none => no
def h3_law_place (tb : Tb) : XS :=
 (sRet (xTup (aCons (xCall (kChk ([] : List Str).length H2_law_draw) (aCons (xVar 0) (aCons (xC (.int 3)) aNil)) aNil) (aCons (xCall (kChk ([] : List Str).length H2_law_of) (aCons (xVar 0) (aCons (x2 dAdd (xVar 1) (xLst (aCons (xC (.str "up")) aNil))) aNil)) aNil) aNil))))
def H3_law_place (tb : Tb) : List D → List D → EM D := fun ds es => match (arrP 2 0 []) ds es with
  | some bs => fnB 2 (h3_law_place tb) bs
  | none => no
def h3_law_end_1 (tb : Tb) : XS :=
 (sRet (xCall (kChk ([] : List Str).length H2_law_of) (aCons (xVar 0) (aCons (xLst (aCons (xVar 2) (aCons (xVar 2) (aCons (xCall (kChk ([] : List Str).length H2_law_of) (aCons (xVar 0) (aCons (xVar 1) aNil)) aNil) aNil)))) aNil)) aNil))
def h3_law_end (tb : Tb) : XS :=
 (sSeq (sSet 2 (xCall (kChk ([] : List Str).length (H3_law_place tb)) (aCons (xVar 0) (aCons (xVar 1) aNil)) aNil))
 (h3_law_end_1 tb))
def H3_law_end (tb : Tb) : List D → List D → EM D := fun ds es => match (arrP 2 0 []) ds es with
  | some bs => fnB 3 (h3_law_end tb) bs
  | none => no
def h3_law_source_2 (tb : Tb) : XS :=
 (sRet (x2 dAdd (xTup (aCons (xC (.str "work")) aNil)) (xN dTuple (aCons (xSl (xVar 2) oNone (oSome (xCall (kChk ([] : List Str).length H2_law_draw) (aCons (xVar 0) (aCons (xC (.int 4)) aNil)) aNil))) aNil))))
def h3_law_source_1 (tb : Tb) : XS :=
 (sSeq (sIf (bV (x2 dEq (xCall (kChk ([] : List Str).length H2_law_draw) (aCons (xVar 0) (aCons (xC (.int 2)) aNil)) aNil) (xC (.int 0)))) (sRet (xTup (aCons (xC (.str "copy")) (aCons (x2 dIx (xVar 2) (xC (.int 0))) aNil)))) sNx)
 (h3_law_source_2 tb))
def h3_law_source (tb : Tb) : XS :=
 (sSeq (sSet 2 (xLc (iRng (xC (.int 3))) (gN 3) bYes (xCall (kChk ([] : List Str).length (H3_law_end tb)) (aCons (xVar 0) (aCons (xVar 1) aNil)) aNil) [3]))
 (h3_law_source_1 tb))
def H3_law_source (tb : Tb) : List D → List D → EM D := fun ds es => match (arrP 2 0 []) ds es with
  | some bs => fnB 4 (h3_law_source tb) bs
  | none => no
def h3_law_step_9 (tb : Tb) : XS :=
 (sRet (xTup (aCons (xVar 2) (aCons (xCall (kChk ([] : List Str).length H2_law_of) (aCons (xVar 0) (aCons (xVar 1) aNil)) aNil) (aCons (xVar 5) (aCons (xSl (xVar 3) (oSome (xCall (kChk ([] : List Str).length H2_law_draw) (aCons (xVar 0) (aCons (xC (.int 3)) aNil)) aNil)) oNone) (aCons (xSl (xVar 4) (oSome (xCall (kChk ([] : List Str).length H2_law_draw) (aCons (xVar 0) (aCons (xC (.int 3)) aNil)) aNil)) oNone) aNil)))))))
def h3_law_step_8 (tb : Tb) : XS :=
 (sSeq (sSet 5 (xCall (kChk ([] : List Str).length H2_law_of) (aCons (xVar 0) (aCons (xLst (aCons (xC .non) (aCons (xC (.int 0)) (aCons (xC (.int 1)) (aCons (xC (.int 2)) aNil))))) aNil)) aNil))
 (h3_law_step_9 tb))
def h3_law_step_7 (tb : Tb) : XS :=
 (sSeq (sSet 4 (xN dTuple (aCons (xLc (iSeq (xSl (xSl (xVar 1) (oSome (xCall (kChk ([] : List Str).length H2_law_draw) (aCons (xVar 0) (aCons (xC (.int 4)) aNil)) aNil)) oNone) oNone (oSome (xC (.int 2))))) (gN 6) bYes (xTup (aCons (xVar 6) (aCons (xCall (kChk ([] : List Str).length (H3_law_source tb)) (aCons (xVar 0) (aCons (xVar 1) aNil)) aNil) aNil))) [6]) aNil)))
 (h3_law_step_8 tb))
def h3_law_step_6 (tb : Tb) : XS :=
 (sSeq (sSet 3 (xN dTuple (aCons (xLc (iSeq (xSl (xSl (xVar 1) (oSome (xCall (kChk ([] : List Str).length H2_law_draw) (aCons (xVar 0) (aCons (xC (.int 4)) aNil)) aNil)) oNone) oNone (oSome (xC (.int 2))))) (gN 6) bYes (xTup (aCons (xVar 6) (aCons (xCall (kChk ([] : List Str).length H2_law_of) (aCons (xVar 0) (aCons (xLst (aCons (xC .non) (aCons (xCall (kChk ([] : List Str).length (H3_law_end tb)) (aCons (xVar 0) (aCons (xVar 1) aNil)) aNil) aNil))) aNil)) aNil) aNil))) [6]) aNil)))
 (h3_law_step_7 tb))
def h3_law_step_5 (tb : Tb) : XS :=
 (sSeq (sIf (bV (x2 dNe (xVar 2) (xC (.str "make")))) (sRet (xTup (aCons (xVar 2) aNil))) sNx)
 (h3_law_step_6 tb))
def h3_law_step_4 (tb : Tb) : XS :=
 (sSeq (sIf (bV (x2 dEq (xVar 2) (xC (.str "point")))) (sRet (xTup (aCons (xVar 2) (aCons (xCall (kChk ([] : List Str).length H2_law_of) (aCons (xVar 0) (aCons (x2 dAdd (xVar 1) (xLst (aCons (xC (.str "up")) aNil))) aNil)) aNil) (aCons (xCall (kChk ([] : List Str).length H2_law_of) (aCons (xVar 0) (aCons (xLst (aCons (xC .non) (aCons (xCall (kChk ([] : List Str).length (H3_law_end tb)) (aCons (xVar 0) (aCons (xVar 1) aNil)) aNil) aNil))) aNil)) aNil) aNil))))) sNx)
 (h3_law_step_5 tb))
def h3_law_step_3 (tb : Tb) : XS :=
 (sSeq (sIf (bV (x2 dEq (xVar 2) (xC (.str "set")))) (sRet (xTup (aCons (xVar 2) (aCons (xCall (kChk ([] : List Str).length H2_law_of) (aCons (xVar 0) (aCons (x2 dAdd (xVar 1) (xLst (aCons (xC (.str "up")) aNil))) aNil)) aNil) (aCons (xCall (kChk ([] : List Str).length (H3_law_source tb)) (aCons (xVar 0) (aCons (xVar 1) aNil)) aNil) aNil))))) sNx)
 (h3_law_step_4 tb))
def h3_law_step_2 (tb : Tb) : XS :=
 (sSeq (sIf (bV (x2 dEq (xVar 2) (xC (.str "same")))) (sRet (xTup (aCons (xVar 2) (aCons (xCall (kChk ([] : List Str).length (H3_law_end tb)) (aCons (xVar 0) (aCons (xVar 1) aNil)) aNil) (aCons (xCall (kChk ([] : List Str).length (H3_law_end tb)) (aCons (xVar 0) (aCons (xVar 1) aNil)) aNil) aNil))))) sNx)
 (h3_law_step_3 tb))
def h3_law_step_1 (tb : Tb) : XS :=
 (sSeq (sIf (bV (x2 dIn (xVar 2) (xLst (aCons (xC (.str "has")) (aCons (xC (.str "lacks")) (aCons (xC (.str "lives")) aNil)))))) (sRet (xTup (aCons (xVar 2) (aCons (xCall (kChk ([] : List Str).length (H3_law_place tb)) (aCons (xVar 0) (aCons (xVar 1) aNil)) aNil) aNil)))) sNx)
 (h3_law_step_2 tb))
def h3_law_step (tb : Tb) : XS :=
 (sSeq (sSet 2 (xCall (kChk ([] : List Str).length H2_law_of) (aCons (xVar 0) (aCons (xLst (aCons (xC (.str "has")) (aCons (xC (.str "lacks")) (aCons (xC (.str "lives")) (aCons (xC (.str "same")) (aCons (xC (.str "set")) (aCons (xC (.str "point")) (aCons (xC (.str "leave")) (aCons (xC (.str "drop")) (aCons (xC (.str "make")) (aCons (xC (.str "make")) aNil))))))))))) aNil)) aNil))
 (h3_law_step_1 tb))
def H3_law_step (tb : Tb) : List D → List D → EM D := fun ds es => match (arrP 2 0 []) ds es with
  | some bs => fnB 7 (h3_law_step tb) bs
  | none => no
/-! the forms of a handler's steps: by the program and by the law -/
section
variable {cs : Cells} {l : Loc} {Q : D → Cells → Prop} {R : Bool → Cells → Prop} {E : Exn → Cells → Prop} {t : EqT} {n i : Nat} {fa fk : XA} {fe : XE}
theorem callV_at {g : Str} {Fn : List D → List D → EM D} (hl : l[i]? = some (.val (.cls g))) (ht : t.at_ g = some Fn) : wp (xCallV t n i fa fk l) cs Q E ↔ wp (xCall (kChk n Fn) fa fk l) cs Q E := by
  unfold xCallV
  rw [hl]
  dsimp only
  rw [ht]
theorem w_inL {neg : Bool} : wp (bInL neg i fe l) cs R E ↔ wp (fe l) cs (fun d cs1 => match l[i]? with
    | some (.own (.lst ys)) => (flatD d && ys.all flatD) = true ∧ R ((ys.any fun y => eqF y d) != neg) cs1
    | _ => False) E := by
  unfold bInL
  rw [wp_bd]
  refine wp_iff (fun d cs1 => ?_) fun _ _ => Iff.rfl
  generalize l[i]? = o
  rcases o with _ | s
  · exact Iff.rfl
  · cases s with
    | own c =>
      cases c with
      | lst ys =>
        dsimp only
        rw [w_ite]
        split
        · rename_i h; exact ⟨fun z => ⟨h, z⟩, fun z => z.2⟩
        · rename_i h; exact ⟨fun z => z.elim, fun z => absurd z.1 h⟩
      | _ => exact Iff.rfl
    | _ => exact Iff.rfl
theorem any_str {ws : List Str} {x : Str} : ((ws.map D.str).any fun y => eqF y (.str x)) = decide (x ∈ ws) := by
  rw [List.any_map, Bool.eq_iff_iff, List.any_eq_true, decide_eq_true_eq]
  constructor
  · rintro ⟨y, hy, e⟩
    have : (y == x) = true := e
    rw [eq_of_beq this] at hy
    exact hy
  · intro h
    exact ⟨x, h, beq_self_eq_true x⟩
theorem all_flat {ws : List Str} : (ws.map D.str).all flatD = true := by
  rw [List.all_map, List.all_eq_true]
  intro w _
  rfl
theorem x_inT {x : Str} {ws : List Str} {Q : D → Prop} : (∃ r, dIn cs (.str x) (.tup (ws.map D.str)) = some r ∧ Q r) ↔ Q (.bl (decide (x ∈ ws))) := by
  have e : dIn cs (.str x) (.tup (ws.map D.str)) = some (.bl (decide (x ∈ ws))) := by
    show Option.map D.bl (if (true && (ws.map D.str).all flatD) = true then some ((ws.map D.str).any fun y => eqF y (.str x)) else none) = _
    rw [all_flat, any_str]
    rfl
  rw [e]
  exact ex_some
theorem comp_all {g : XG} {ds : List D} (p : D → Bool) (step : ∀ d ∈ ds, ∃ l1, g d l cs = some l1 ∧ wp (fe l1) cs (fun y cs2 => y = .bl (p d) ∧ cs2 = cs) fun _ _ => False) (q : Q (.bl (ds.all p)) cs) : wp (compL g bYes fe l ds) cs (fun ys cs2 => ∃ r, dAll cs2 [.lst ys] = some r ∧ Q r cs2) E := by
  refine comp_map (fun d => .bl (p d)) step ?_
  refine ⟨.bl (ds.all p), ?_, q⟩
  show (blsOf (ds.map fun d => D.bl (p d))).map (fun bs => D.bl (bs.all id)) = _
  rw [blsOf_map]
  show some (D.bl ((ds.map p).all id)) = _
  rw [List.all_map]
  rfl
theorem x_truT {xs : List D} {Q : Bool → Prop} : (∃ r, truD cs (.tup xs) = some r ∧ Q r) ↔ Q (!xs.isEmpty) := ex_some
end
def endB (d : D) : Bool := isNm d || plB d
def toB (d : D) : Bool := isNon d || endB d
def one1 (p : D → Bool) : List D → Bool
  | [a] => p a
  | _ => false
def two2 (p q : D → Bool) : List D → Bool
  | [a, b] => p a && q b
  | _ => false
def srcB : D → Bool
  | .tup (w :: os) => if isS "copy" w = true then one1 endB os else isS "work" w && (decide (os.length ≤ 3) && os.all endB)
  | _ => false
def pairB (f : D → Bool) (seen : List Str) : D → Bool
  | .tup [.str k, v] => nmS k && (!decide (k ∈ seen) && f v)
  | _ => false
def keyS : D → Str
  | .tup [.str k, _] => k
  | _ => ""
def pairsB (f : D → Bool) : List Str → List D → Bool
  | _, [] => true
  | seen, x :: r => pairB f seen x && pairsB f (seen ++ [keyS x]) r
def prB (f : D → Bool) : D → Bool
  | .tup ds => pairsB f [] ds
  | _ => false
def upB (d : D) : Bool := isNon d || rng02 d
def four4 : List D → Bool
  | [s, u, r, f] => isNm s && (upB u && (prB toB r && prB srcB f))
  | _ => false
def hstB : D → Bool
  | .tup (.str w :: ps) => if w = "set" then two2 isNm srcB ps else if w = "point" then two2 isNm toB ps else if w = "make" then four4 ps
    else if w = "leave" ∨ w = "drop" then ps.isEmpty else if w = "same" then two2 endB endB ps else if w = "has" ∨ w = "lacks" ∨ w = "lives" then one1 plB ps else false
  | _ => false
section
variable {tb : Tb} {cs : Cells} {n : Nat} {d : D} {Q : D → Cells → Prop} {E : Exn → Cells → Prop}
theorem ok_copy : PyData.strOk "copy" = true := by decide +kernel
theorem ok_work : PyData.strOk "work" = true := by decide +kernel
theorem gw_dat (h : gwN 1000 n d = true) : datD d = true := gdN_dat (gwN_gd h)
theorem gw_tup {ds : List D} (h : gwN 1000 n (.tup ds) = true) : ds.length ≤ 1000 ∧ ∀ x ∈ ds, gwN 1000 n x = true := by
  cases n with
  | zero => simp [gwN] at h
  | succ n =>
    obtain ⟨a, b⟩ := gwN_tup.mp h
    exact ⟨a, fun x hx => gwN_mono (Nat.le_refl _) (b x hx) (by omega)⟩
theorem wp_end (h : gwN 1000 n d = true) : wp (H3_is_end tb [d] []) cs Q E ↔ Q (.bl (endB d)) cs := by
  refine wp_eq (eq_wp ?_)
  show wp (runB (h3_is_end tb) [.val d]) cs _ _
  unfold h3_is_end
  walk_at "w"
  simp only [wp_nmD (gw_dat h), wp_place2 (gwN_gd h), ex_bl]
  cases q : isNm d <;> simp [endB, q]
theorem wp_to (h : gwN 1000 n d = true) : wp (H3_is_to tb [d] []) cs Q E ↔ Q (.bl (toB d)) cs := by
  refine wp_eq (eq_wp ?_)
  show wp (runB (h3_is_to tb) [.val d]) cs _ _
  unfold h3_is_to
  walk_at "w"
  simp only [wp_end h, ex_bl]
  cases q : isNon d <;> simp [toB, q]
theorem wp_source (h : gwN 1000 n d = true) (hn : n ≤ 20) : wp (H3_is_source tb [d] []) cs Q E ↔ Q (.bl (srcB d)) cs := by
  refine wp_eq (eq_wp ?_)
  show wp (runB (h3_is_source tb) [.val d, .emp, .emp, .emp]) cs _ _
  unfold h3_is_source
  walk_at "w"
  simp only [isi_tD (gw_dat h)]
  cases d with
  | tup ds =>
    obtain ⟨hl, hd⟩ := gw_tup h
    simp only [isTup, ex_bl, x_truT]
    rcases ds with _ | ⟨w, os⟩
    · simp [srcB]
    · simp only [List.isEmpty_cons, Bool.not_false, Bool.not_true, Bool.false_eq_true, if_false]
      have ho : ∀ x ∈ os, gwN 1000 n x = true := fun x hx => hd x (List.mem_cons_of_mem _ hx)
      have gw : gdN n w = true := gwN_gd (hd w List.mem_cons_self)
      have lo : os.length ≤ 1000 := by simp at hl; omega
      have eS : ∀ {Z : Loc → Prop}, (∃ l', gS 1 (gsCons (gN 1) (gsCons (gN 2) gsNil)) (.tup (w :: os)) [Sl.val (.tup (w :: os)), .emp, .emp, .emp] cs = some l' ∧ Z l') ↔ Z [.val (.tup (w :: os)), .val w, .val (.lst os), .emp] := ex_some
      unfold h3_is_source_1 h3_is_source_2 h3_is_source_3
      walk_at "w"
      rw [eS]
      walk_at "w"
      simp only [x_eqW gw hn ok_copy, x_eqW gw hn ok_work, ex_bl]
      cases q1 : isS "copy" w with
      | true =>
        simp only [if_true]
        rcases os with _ | ⟨o, _ | ⟨o2, r⟩⟩
        · simp [srcB, q1, one1]
        · simp only [show atI [o] 0 = some o from rfl, ex_some, wp_end (ho o (by simp))]
          simp [srcB, q1, one1]
        · have n1 : ¬ ((r.length : Int) + 1 + 1 = 1) := by omega
          simp [srcB, q1, one1, n1]
      | false =>
        simp only [Bool.false_eq_true, if_false]
        cases q2 : isS "work" w with
        | false => simp [srcB, q1, q2]
        | true =>
          simp only [if_true]
          by_cases q3 : os.length ≤ 3
          · have q4 : ((os.length : Int) ≤ 3) := by omega
            simp only [q4, if_true]
            refine ⟨by omega, comp_all endB (fun x hx => ⟨_, rfl, ?_⟩) ?_⟩
            · walk_at "w"
              rw [wp_end (ho x hx)]
              exact ⟨rfl, rfl⟩
            · simp [srcB, q1, q2, q3]
          · have q4 : ¬ ((os.length : Int) ≤ 3) := by omega
            simp [srcB, q1, q2, q3, q4]
  | _ => simp [isTup, srcB]
theorem fits_to : (T3_fits tb).at_ "is_to" = some (H3_is_to tb) := by
  unfold EqT.at_ T3_fits
  rw [List.find?_cons_of_pos (by simp)]
  rfl
theorem fits_src : (T3_fits tb).at_ "is_source" = some (H3_is_source tb) := by
  have e : decide (("is_to" : Str) = "is_source") = false := by decide +kernel
  have e2 : decide (("is_source" : Str) = "is_source") = true := by decide +kernel
  unfold EqT.at_ T3_fits
  simp only [List.find?_cons, e, e2]
  rfl
theorem pairsB_drop {f : D → Bool} {ds : List D} {seen : List Str} {i : Nat} {x : D} (hx : ds[i]? = some x) : pairsB f seen (ds.drop i) = (pairB f seen x && pairsB f (seen ++ [keyS x]) (ds.drop (i + 1))) := by
  obtain ⟨hl, e⟩ := List.getElem?_eq_some_iff.mp hx
  rw [List.drop_eq_getElem_cons hl, e]
  rfl
theorem wp_pairs {f : D → Bool} {g : Str} {Fn : List D → List D → EM D} (ht : (T3_fits tb).at_ g = some Fn) (hf : ∀ (d : D) (Q : D → Cells → Prop) (E : Exn → Cells → Prop), gwN 1000 n d = true → (wp (Fn [d] []) cs Q E ↔ Q (.bl (f d)) cs)) (h : gwN 1000 n d = true) : wp (H3_are_pairs tb [d, .cls g] []) cs Q E ↔ Q (.bl (prB f d)) cs := by
  refine wp_eq (eq_wp ?_)
  show wp (runB (h3_are_pairs tb) [.val d, .val (.cls g), .emp, .emp]) cs _ _
  unfold h3_are_pairs h3_are_pairs_1 h3_are_pairs_2 h3_are_pairs_3
  walk_at "w"
  simp only [isi_tD (gw_dat h)]
  cases d with
  | tup ds =>
    obtain ⟨hl, hd⟩ := gw_tup h
    simp only [isTup, ex_bl, Bool.not_true, Bool.false_eq_true, if_false, Bool.true_eq_false]
    walk_at "w"
    refine for_inv (fun i l cs' => cs' = cs ∧ ∃ seen s, l = [.val (.tup ds), .val (.cls g), .own (.set (seen.map Sum.inr)), s] ∧ seen.length = i ∧ pairsB f [] ds = pairsB f seen (ds.drop i)) ⟨rfl, [], _, rfl, rfl, rfl⟩ ?_ ?_
    · rintro i x l cs1 hi ⟨rfl, seen, s, rfl, hs, he⟩
      have hil : i < ds.length := (List.getElem?_eq_some_iff.mp hi).1
      have hx := hd x (List.mem_of_getElem? hi)
      rw [pairsB_drop hi] at he
      have bad : pairB f seen x = false → (D.bl false = .bl (prB f (.tup ds))) := fun z => by
        rw [z, Bool.false_and] at he
        show D.bl false = D.bl (pairsB f [] ds)
        rw [he]
      walk_at "w"
      simp only [isi_tD (gw_dat hx)]
      cases x with
      | tup xs =>
        obtain ⟨hl2, hd2⟩ := gw_tup hx
        simp only [isTup, ex_bl]
        walk_at "w"
        rcases xs with _ | ⟨a, _ | ⟨v, _ | ⟨c, r⟩⟩⟩
        · simpa [pairB] using bad
        · simpa [pairB] using bad
        · have ga := hd2 a (by simp)
          have gv := hd2 v (by simp)
          simp only [show atI [a, v] 0 = some a from rfl, show atI [a, v] 1 = some v from rfl, ex_some, wp_nmD (gw_dat ga), ex_bl]
          cases a with
          | str k =>
            cases q1 : nmS k with
            | false => simpa [isNm, q1, pairB] using bad
            | true =>
              simp only [isNm, q1, List.length_cons, List.length_nil]
              simp only [Nat.reduceAdd, Int.reduceEq, Int.cast_ofNat_Int, not_true, if_false, Bool.true_eq_false, Bool.false_eq_true]
              walk_at "w"
              simp only [show atI [D.str k, v] 0 = some (.str k) from rfl, show atI [D.str k, v] 1 = some v from rfl, ex_some, keyOf, hasK_s]
              by_cases q2 : k ∈ seen
              · simpa [q2, pairB, q1] using bad
              · simp only [q2, decide_false, bne_self_eq_false, Bool.false_eq_true, if_false]
                rw [callV_at rfl ht]
                walk_at "w"
                simp only [show atI [D.str k, v] 1 = some v from rfl, ex_some, hf v _ _ gv, ex_bl]
                cases q3 : f v with
                | false =>
                  simp only [if_true]
                  exact ⟨bad (by simp [pairB, q1, q2, q3]), trivial⟩
                | true =>
                  simp only [Bool.true_eq_false, if_false]
                  refine ⟨by simp; omega, trivial, seen ++ [k], .val (.tup [.str k, v]), ?_, by simp [hs], ?_⟩
                  · unfold addK
                    rw [hasK_s, decide_eq_false q2, if_neg Bool.false_ne_true]
                    simp
                  · rw [he]
                    simp [pairB, q1, q2, q3, keyS]
          | _ => simpa [isNm, pairB] using bad
        · have n1 : ¬ ((r.length : Int) + 1 + 1 + 1 = 2) := by omega
          simpa [pairB, n1] using bad
      | _ => simpa [isTup, pairB] using bad
    · rintro l cs1 ⟨rfl, seen, s, rfl, hs, he⟩
      rw [List.drop_length] at he
      walk_at "w"
      show D.bl true = D.bl (pairsB f [] ds)
      rw [he]
      rfl
  | _ => simp [isTup, prB]
theorem wp_pairsT (h : gwN 1000 n d = true) : wp (H3_are_pairs tb [d, .cls "is_to"] []) cs Q E ↔ Q (.bl (prB toB d)) cs := wp_pairs fits_to (fun d Q E hd => wp_to hd) h
theorem wp_pairsS (h : gwN 1000 n d = true) (hn : n ≤ 20) : wp (H3_are_pairs tb [d, .cls "is_source"] []) cs Q E ↔ Q (.bl (prB srcB d)) cs := wp_pairs fits_src (fun d Q E hd => wp_source hd hn) h
theorem wp_make {ps : List D} (h : ∀ x ∈ ps, gwN 1000 n x = true) (hn : n ≤ 20) : wp (H3_is_make tb [.lst ps] []) cs Q E ↔ Q (.bl (four4 ps)) cs := by
  refine wp_eq (eq_wp ?_)
  show wp (runB (h3_is_make tb) [.val (.lst ps), .emp, .emp, .emp, .emp]) cs _ _
  unfold h3_is_make
  walk_at "w"
  rcases ps with _ | ⟨s, _ | ⟨u, _ | ⟨r, _ | ⟨f, _ | ⟨z, zs⟩⟩⟩⟩⟩
  · simp [four4]
  · simp [four4]
  · simp [four4]
  · simp [four4]
  · have eL : ∀ {Z : Loc → Prop}, (∃ l', gL 4 (gsCons (gN 1) (gsCons (gN 2) (gsCons (gN 3) (gsCons (gN 4) gsNil)))) (.lst [s, u, r, f]) [Sl.val (.lst [s, u, r, f]), .emp, .emp, .emp, .emp] cs = some l' ∧ Z l') ↔ Z [.val (.lst [s, u, r, f]), .val s, .val u, .val r, .val f] := ex_some
    have hs := h s (by simp)
    have hu := h u (by simp)
    have hr := h r (by simp)
    have hf := h f (by simp)
    simp only [List.length_cons, List.length_nil]
    simp only [Nat.reduceAdd, Int.cast_ofNat_Int, not_true, if_false]
    unfold h3_is_make_1 h3_is_make_2 h3_is_make_3
    walk_at "w"
    rw [eL]
    walk_at "w"
    simp only [wp_nmD (gw_dat hs), wp_isint (gw_dat hu), wp_pairsT hr, wp_pairsS hf hn, ex_bl]
    cases q1 : isNm s with
    | false => simp [four4, q1]
    | true =>
      simp only [Bool.true_eq_false, if_false]
      cases u with
      | non => cases q2 : prB toB r <;> simp [isNon, four4, q1, q2, upB]
      | int i =>
        simp only [isNon, isI, Bool.not_false, if_true, Bool.true_eq_false, if_false]
        walk_at "w"
        by_cases h0 : 0 ≤ i
        · by_cases h2 : i ≤ 2
          · have e : dLe cs (.int i) (.int 2) = some (.bl true) := by show some (D.bl (decide (i ≤ 2))) = _; simp [h2]
            cases q2 : prB toB r <;> simp [four4, q1, q2, upB, rng02, isNon, h0, h2, e]
          · have e : dLe cs (.int i) (.int 2) = some (.bl false) := by show some (D.bl (decide (i ≤ 2))) = _; simp [h2]
            simp [four4, q1, upB, rng02, isNon, h0, h2, e]
        · simp [four4, q1, upB, rng02, isNon, h0]
      | _ => simp [isNon, isI, four4, q1, upB, rng02]
  · have n1 : ¬ ((zs.length : Int) + 1 + 1 + 1 + 1 + 1 = 4) := by omega
    simp [four4, n1]
end
theorem ns_set_point : (("set" : Str) = "point") = False := eq_false (by decide +kernel)
theorem ns_set_make : (("set" : Str) = "make") = False := eq_false (by decide +kernel)
theorem ns_set_leave : (("set" : Str) = "leave") = False := eq_false (by decide +kernel)
theorem ns_set_drop : (("set" : Str) = "drop") = False := eq_false (by decide +kernel)
theorem ns_set_same : (("set" : Str) = "same") = False := eq_false (by decide +kernel)
theorem ns_set_has : (("set" : Str) = "has") = False := eq_false (by decide +kernel)
theorem ns_set_lacks : (("set" : Str) = "lacks") = False := eq_false (by decide +kernel)
theorem ns_set_lives : (("set" : Str) = "lives") = False := eq_false (by decide +kernel)
theorem ns_point_set : (("point" : Str) = "set") = False := eq_false (by decide +kernel)
theorem ns_point_make : (("point" : Str) = "make") = False := eq_false (by decide +kernel)
theorem ns_point_leave : (("point" : Str) = "leave") = False := eq_false (by decide +kernel)
theorem ns_point_drop : (("point" : Str) = "drop") = False := eq_false (by decide +kernel)
theorem ns_point_same : (("point" : Str) = "same") = False := eq_false (by decide +kernel)
theorem ns_point_has : (("point" : Str) = "has") = False := eq_false (by decide +kernel)
theorem ns_point_lacks : (("point" : Str) = "lacks") = False := eq_false (by decide +kernel)
theorem ns_point_lives : (("point" : Str) = "lives") = False := eq_false (by decide +kernel)
theorem ns_make_set : (("make" : Str) = "set") = False := eq_false (by decide +kernel)
theorem ns_make_point : (("make" : Str) = "point") = False := eq_false (by decide +kernel)
theorem ns_make_leave : (("make" : Str) = "leave") = False := eq_false (by decide +kernel)
theorem ns_make_drop : (("make" : Str) = "drop") = False := eq_false (by decide +kernel)
theorem ns_make_same : (("make" : Str) = "same") = False := eq_false (by decide +kernel)
theorem ns_make_has : (("make" : Str) = "has") = False := eq_false (by decide +kernel)
theorem ns_make_lacks : (("make" : Str) = "lacks") = False := eq_false (by decide +kernel)
theorem ns_make_lives : (("make" : Str) = "lives") = False := eq_false (by decide +kernel)
theorem ns_leave_set : (("leave" : Str) = "set") = False := eq_false (by decide +kernel)
theorem ns_leave_point : (("leave" : Str) = "point") = False := eq_false (by decide +kernel)
theorem ns_leave_make : (("leave" : Str) = "make") = False := eq_false (by decide +kernel)
theorem ns_leave_drop : (("leave" : Str) = "drop") = False := eq_false (by decide +kernel)
theorem ns_leave_same : (("leave" : Str) = "same") = False := eq_false (by decide +kernel)
theorem ns_leave_has : (("leave" : Str) = "has") = False := eq_false (by decide +kernel)
theorem ns_leave_lacks : (("leave" : Str) = "lacks") = False := eq_false (by decide +kernel)
theorem ns_leave_lives : (("leave" : Str) = "lives") = False := eq_false (by decide +kernel)
theorem ns_drop_set : (("drop" : Str) = "set") = False := eq_false (by decide +kernel)
theorem ns_drop_point : (("drop" : Str) = "point") = False := eq_false (by decide +kernel)
theorem ns_drop_make : (("drop" : Str) = "make") = False := eq_false (by decide +kernel)
theorem ns_drop_leave : (("drop" : Str) = "leave") = False := eq_false (by decide +kernel)
theorem ns_drop_same : (("drop" : Str) = "same") = False := eq_false (by decide +kernel)
theorem ns_drop_has : (("drop" : Str) = "has") = False := eq_false (by decide +kernel)
theorem ns_drop_lacks : (("drop" : Str) = "lacks") = False := eq_false (by decide +kernel)
theorem ns_drop_lives : (("drop" : Str) = "lives") = False := eq_false (by decide +kernel)
theorem ns_same_set : (("same" : Str) = "set") = False := eq_false (by decide +kernel)
theorem ns_same_point : (("same" : Str) = "point") = False := eq_false (by decide +kernel)
theorem ns_same_make : (("same" : Str) = "make") = False := eq_false (by decide +kernel)
theorem ns_same_leave : (("same" : Str) = "leave") = False := eq_false (by decide +kernel)
theorem ns_same_drop : (("same" : Str) = "drop") = False := eq_false (by decide +kernel)
theorem ns_same_has : (("same" : Str) = "has") = False := eq_false (by decide +kernel)
theorem ns_same_lacks : (("same" : Str) = "lacks") = False := eq_false (by decide +kernel)
theorem ns_same_lives : (("same" : Str) = "lives") = False := eq_false (by decide +kernel)
theorem ns_has_set : (("has" : Str) = "set") = False := eq_false (by decide +kernel)
theorem ns_has_point : (("has" : Str) = "point") = False := eq_false (by decide +kernel)
theorem ns_has_make : (("has" : Str) = "make") = False := eq_false (by decide +kernel)
theorem ns_has_leave : (("has" : Str) = "leave") = False := eq_false (by decide +kernel)
theorem ns_has_drop : (("has" : Str) = "drop") = False := eq_false (by decide +kernel)
theorem ns_has_same : (("has" : Str) = "same") = False := eq_false (by decide +kernel)
theorem ns_has_lacks : (("has" : Str) = "lacks") = False := eq_false (by decide +kernel)
theorem ns_has_lives : (("has" : Str) = "lives") = False := eq_false (by decide +kernel)
theorem ns_lacks_set : (("lacks" : Str) = "set") = False := eq_false (by decide +kernel)
theorem ns_lacks_point : (("lacks" : Str) = "point") = False := eq_false (by decide +kernel)
theorem ns_lacks_make : (("lacks" : Str) = "make") = False := eq_false (by decide +kernel)
theorem ns_lacks_leave : (("lacks" : Str) = "leave") = False := eq_false (by decide +kernel)
theorem ns_lacks_drop : (("lacks" : Str) = "drop") = False := eq_false (by decide +kernel)
theorem ns_lacks_same : (("lacks" : Str) = "same") = False := eq_false (by decide +kernel)
theorem ns_lacks_has : (("lacks" : Str) = "has") = False := eq_false (by decide +kernel)
theorem ns_lacks_lives : (("lacks" : Str) = "lives") = False := eq_false (by decide +kernel)
theorem ns_lives_set : (("lives" : Str) = "set") = False := eq_false (by decide +kernel)
theorem ns_lives_point : (("lives" : Str) = "point") = False := eq_false (by decide +kernel)
theorem ns_lives_make : (("lives" : Str) = "make") = False := eq_false (by decide +kernel)
theorem ns_lives_leave : (("lives" : Str) = "leave") = False := eq_false (by decide +kernel)
theorem ns_lives_drop : (("lives" : Str) = "drop") = False := eq_false (by decide +kernel)
theorem ns_lives_same : (("lives" : Str) = "same") = False := eq_false (by decide +kernel)
theorem ns_lives_has : (("lives" : Str) = "has") = False := eq_false (by decide +kernel)
theorem ns_lives_lacks : (("lives" : Str) = "lacks") = False := eq_false (by decide +kernel)
section
variable {tb : Tb} {cs : Cells} {n : Nat} {d : D} {Q : D → Cells → Prop} {E : Exn → Cells → Prop}
def gdB (w : Str) (ps : List D) : Bool := if w = "same" then two2 endB endB ps else decide (w ∈ (["has", "lacks", "lives"] : List Str)) && one1 plB ps
theorem wp_guard {w : Str} {ps : List D} (h : ∀ x ∈ ps, gwN 1000 n x = true) : wp (H3_is_guard tb [.str w, .lst ps] []) cs Q E ↔ Q (.bl (gdB w ps)) cs := by
  refine wp_eq (eq_wp ?_)
  show wp (runB (h3_is_guard tb) [.val (.str w), .val (.lst ps)]) cs _ _
  unfold h3_is_guard h3_is_guard_1
  walk_at "w"
  have eI : ∀ {Z : D → Prop}, (∃ r, dIn cs (.str w) (.tup [.str "has", .str "lacks", .str "lives"]) = some r ∧ Z r) ↔ Z (.bl (decide (w ∈ (["has", "lacks", "lives"] : List Str)))) := x_inT (ws := ["has", "lacks", "lives"])
  simp only [eI, ex_bl]
  unfold gdB
  by_cases q1 : w = "same"
  · simp only [q1, if_true]
    rcases ps with _ | ⟨a, _ | ⟨b, _ | ⟨c, r⟩⟩⟩
    · simp [two2]
    · simp [two2]
    · simp only [show atI [a, b] 0 = some a from rfl, show atI [a, b] 1 = some b from rfl, ex_some, wp_end (h a (by simp)), wp_end (h b (by simp)), ex_bl]
      cases q2 : endB a <;> simp [two2, q2]
    · have n1 : ¬ ((r.length : Int) + 1 + 1 + 1 = 2) := by omega
      simp [two2, n1]
  · simp only [q1, if_false]
    cases q2 : decide (w ∈ (["has", "lacks", "lives"] : List Str)) with
    | false => simp
    | true =>
      simp only [if_true, Bool.true_and]
      rcases ps with _ | ⟨a, _ | ⟨b, r⟩⟩
      · simp [one1]
      · simp only [show atI [a] 0 = some a from rfl, ex_some, wp_place2 (gwN_gd (h a (by simp)))]
        simp [one1]
      · have n1 : ¬ ((r.length : Int) + 1 + 1 = 1) := by omega
        simp [one1, n1]
theorem wp_step3 (h : gwN 1000 n d = true) (hn : n ≤ 20) : wp (H3_is_step tb [d] []) cs Q E ↔ Q (.bl (hstB d)) cs := by
  refine wp_eq (eq_wp ?_)
  show wp (runB (h3_is_step tb) [.val d, .emp, .emp]) cs _ _
  unfold h3_is_step
  walk_at "w"
  simp only [isi_tD (gw_dat h)]
  cases d with
  | tup ds =>
    obtain ⟨hl, hd⟩ := gw_tup h
    simp only [isTup, ex_bl, x_truT]
    rcases ds with _ | ⟨w0, ps⟩
    · simp [hstB]
    · have gw0 := hd w0 List.mem_cons_self
      have hp : ∀ x ∈ ps, gwN 1000 n x = true := fun x hx => hd x (List.mem_cons_of_mem _ hx)
      walk_at "w"
      simp only [show atI (w0 :: ps) 0 = some w0 from atI_nat (k := 0) rfl, ex_some, x_isiS (gw_dat gw0), ex_bl]
      cases w0 with
      | str w =>
        simp only [isStrD, List.isEmpty_cons, Bool.not_false, Bool.not_true, Bool.false_eq_true, if_false, Bool.true_eq_false]
        have eS : ∀ {Z : Loc → Prop}, (∃ l', gS 1 (gsCons (gN 1) (gsCons (gN 2) gsNil)) (.tup (.str w :: ps)) [Sl.val (.tup (.str w :: ps)), .emp, .emp] cs = some l' ∧ Z l') ↔ Z [.val (.tup (.str w :: ps)), .val (.str w), .val (.lst ps)] := ex_some
        have eI : ∀ {Z : D → Prop}, (∃ r, dIn cs (.str w) (.tup [.str "leave", .str "drop"]) = some r ∧ Z r) ↔ Z (.bl (decide (w ∈ (["leave", "drop"] : List Str)))) := x_inT (ws := ["leave", "drop"])
        unfold h3_is_step_1 h3_is_step_2 h3_is_step_3 h3_is_step_4 h3_is_step_5
        walk_at "w"
        rw [eS]
        walk_at "w"
        simp only [eI, ex_bl, wp_make hp hn, wp_guard hp]
        by_cases q1 : w = "set"
        · subst q1
          simp only [if_true]
          rcases ps with _ | ⟨a, _ | ⟨b, _ | ⟨c, r⟩⟩⟩
          · simp [hstB, two2]
          · simp [hstB, two2]
          · simp only [show atI [a, b] 0 = some a from rfl, show atI [a, b] 1 = some b from rfl, ex_some, wp_nmD (gw_dat (hp a (by simp))), wp_source (hp b (by simp)) hn, ex_bl]
            cases q2 : isNm a <;> simp [hstB, two2, q2]
          · have n1 : ¬ ((r.length : Int) + 1 + 1 + 1 = 2) := by omega
            simp [hstB, two2, n1]
        simp only [q1, if_false]
        by_cases q2 : w = "point"
        · subst q2
          simp only [if_true]
          rcases ps with _ | ⟨a, _ | ⟨b, _ | ⟨c, r⟩⟩⟩
          · simp [hstB, two2, ns_set_point, ns_set_make, ns_set_leave, ns_set_drop, ns_set_same, ns_set_has, ns_set_lacks, ns_set_lives, ns_point_set, ns_point_make, ns_point_leave, ns_point_drop, ns_point_same, ns_point_has, ns_point_lacks, ns_point_lives, ns_make_set, ns_make_point, ns_make_leave, ns_make_drop, ns_make_same, ns_make_has, ns_make_lacks, ns_make_lives, ns_leave_set, ns_leave_point, ns_leave_make, ns_leave_drop, ns_leave_same, ns_leave_has, ns_leave_lacks, ns_leave_lives, ns_drop_set, ns_drop_point, ns_drop_make, ns_drop_leave, ns_drop_same, ns_drop_has, ns_drop_lacks, ns_drop_lives, ns_same_set, ns_same_point, ns_same_make, ns_same_leave, ns_same_drop, ns_same_has, ns_same_lacks, ns_same_lives, ns_has_set, ns_has_point, ns_has_make, ns_has_leave, ns_has_drop, ns_has_same, ns_has_lacks, ns_has_lives, ns_lacks_set, ns_lacks_point, ns_lacks_make, ns_lacks_leave, ns_lacks_drop, ns_lacks_same, ns_lacks_has, ns_lacks_lives, ns_lives_set, ns_lives_point, ns_lives_make, ns_lives_leave, ns_lives_drop, ns_lives_same, ns_lives_has, ns_lives_lacks]
          · simp [hstB, two2, ns_set_point, ns_set_make, ns_set_leave, ns_set_drop, ns_set_same, ns_set_has, ns_set_lacks, ns_set_lives, ns_point_set, ns_point_make, ns_point_leave, ns_point_drop, ns_point_same, ns_point_has, ns_point_lacks, ns_point_lives, ns_make_set, ns_make_point, ns_make_leave, ns_make_drop, ns_make_same, ns_make_has, ns_make_lacks, ns_make_lives, ns_leave_set, ns_leave_point, ns_leave_make, ns_leave_drop, ns_leave_same, ns_leave_has, ns_leave_lacks, ns_leave_lives, ns_drop_set, ns_drop_point, ns_drop_make, ns_drop_leave, ns_drop_same, ns_drop_has, ns_drop_lacks, ns_drop_lives, ns_same_set, ns_same_point, ns_same_make, ns_same_leave, ns_same_drop, ns_same_has, ns_same_lacks, ns_same_lives, ns_has_set, ns_has_point, ns_has_make, ns_has_leave, ns_has_drop, ns_has_same, ns_has_lacks, ns_has_lives, ns_lacks_set, ns_lacks_point, ns_lacks_make, ns_lacks_leave, ns_lacks_drop, ns_lacks_same, ns_lacks_has, ns_lacks_lives, ns_lives_set, ns_lives_point, ns_lives_make, ns_lives_leave, ns_lives_drop, ns_lives_same, ns_lives_has, ns_lives_lacks]
          · simp only [show atI [a, b] 0 = some a from rfl, show atI [a, b] 1 = some b from rfl, ex_some, wp_nmD (gw_dat (hp a (by simp))), wp_to (hp b (by simp)), ex_bl]
            cases q2 : isNm a <;> simp [hstB, two2, q2, ns_set_point, ns_set_make, ns_set_leave, ns_set_drop, ns_set_same, ns_set_has, ns_set_lacks, ns_set_lives, ns_point_set, ns_point_make, ns_point_leave, ns_point_drop, ns_point_same, ns_point_has, ns_point_lacks, ns_point_lives, ns_make_set, ns_make_point, ns_make_leave, ns_make_drop, ns_make_same, ns_make_has, ns_make_lacks, ns_make_lives, ns_leave_set, ns_leave_point, ns_leave_make, ns_leave_drop, ns_leave_same, ns_leave_has, ns_leave_lacks, ns_leave_lives, ns_drop_set, ns_drop_point, ns_drop_make, ns_drop_leave, ns_drop_same, ns_drop_has, ns_drop_lacks, ns_drop_lives, ns_same_set, ns_same_point, ns_same_make, ns_same_leave, ns_same_drop, ns_same_has, ns_same_lacks, ns_same_lives, ns_has_set, ns_has_point, ns_has_make, ns_has_leave, ns_has_drop, ns_has_same, ns_has_lacks, ns_has_lives, ns_lacks_set, ns_lacks_point, ns_lacks_make, ns_lacks_leave, ns_lacks_drop, ns_lacks_same, ns_lacks_has, ns_lacks_lives, ns_lives_set, ns_lives_point, ns_lives_make, ns_lives_leave, ns_lives_drop, ns_lives_same, ns_lives_has, ns_lives_lacks]
          · have n1 : ¬ ((r.length : Int) + 1 + 1 + 1 = 2) := by omega
            simp [hstB, two2, n1, ns_set_point, ns_set_make, ns_set_leave, ns_set_drop, ns_set_same, ns_set_has, ns_set_lacks, ns_set_lives, ns_point_set, ns_point_make, ns_point_leave, ns_point_drop, ns_point_same, ns_point_has, ns_point_lacks, ns_point_lives, ns_make_set, ns_make_point, ns_make_leave, ns_make_drop, ns_make_same, ns_make_has, ns_make_lacks, ns_make_lives, ns_leave_set, ns_leave_point, ns_leave_make, ns_leave_drop, ns_leave_same, ns_leave_has, ns_leave_lacks, ns_leave_lives, ns_drop_set, ns_drop_point, ns_drop_make, ns_drop_leave, ns_drop_same, ns_drop_has, ns_drop_lacks, ns_drop_lives, ns_same_set, ns_same_point, ns_same_make, ns_same_leave, ns_same_drop, ns_same_has, ns_same_lacks, ns_same_lives, ns_has_set, ns_has_point, ns_has_make, ns_has_leave, ns_has_drop, ns_has_same, ns_has_lacks, ns_has_lives, ns_lacks_set, ns_lacks_point, ns_lacks_make, ns_lacks_leave, ns_lacks_drop, ns_lacks_same, ns_lacks_has, ns_lacks_lives, ns_lives_set, ns_lives_point, ns_lives_make, ns_lives_leave, ns_lives_drop, ns_lives_same, ns_lives_has, ns_lives_lacks]
        simp only [q2, if_false]
        by_cases q3 : w = "make"
        · subst q3
          simp [hstB, ns_set_point, ns_set_make, ns_set_leave, ns_set_drop, ns_set_same, ns_set_has, ns_set_lacks, ns_set_lives, ns_point_set, ns_point_make, ns_point_leave, ns_point_drop, ns_point_same, ns_point_has, ns_point_lacks, ns_point_lives, ns_make_set, ns_make_point, ns_make_leave, ns_make_drop, ns_make_same, ns_make_has, ns_make_lacks, ns_make_lives, ns_leave_set, ns_leave_point, ns_leave_make, ns_leave_drop, ns_leave_same, ns_leave_has, ns_leave_lacks, ns_leave_lives, ns_drop_set, ns_drop_point, ns_drop_make, ns_drop_leave, ns_drop_same, ns_drop_has, ns_drop_lacks, ns_drop_lives, ns_same_set, ns_same_point, ns_same_make, ns_same_leave, ns_same_drop, ns_same_has, ns_same_lacks, ns_same_lives, ns_has_set, ns_has_point, ns_has_make, ns_has_leave, ns_has_drop, ns_has_same, ns_has_lacks, ns_has_lives, ns_lacks_set, ns_lacks_point, ns_lacks_make, ns_lacks_leave, ns_lacks_drop, ns_lacks_same, ns_lacks_has, ns_lacks_lives, ns_lives_set, ns_lives_point, ns_lives_make, ns_lives_leave, ns_lives_drop, ns_lives_same, ns_lives_has, ns_lives_lacks]
        simp only [q3, if_false]
        by_cases q4 : w = "leave" ∨ w = "drop"
        · rcases q4 with rfl | rfl <;> rcases ps with _ | ⟨a, r⟩ <;> simp [hstB, gdB, ns_set_point, ns_set_make, ns_set_leave, ns_set_drop, ns_set_same, ns_set_has, ns_set_lacks, ns_set_lives, ns_point_set, ns_point_make, ns_point_leave, ns_point_drop, ns_point_same, ns_point_has, ns_point_lacks, ns_point_lives, ns_make_set, ns_make_point, ns_make_leave, ns_make_drop, ns_make_same, ns_make_has, ns_make_lacks, ns_make_lives, ns_leave_set, ns_leave_point, ns_leave_make, ns_leave_drop, ns_leave_same, ns_leave_has, ns_leave_lacks, ns_leave_lives, ns_drop_set, ns_drop_point, ns_drop_make, ns_drop_leave, ns_drop_same, ns_drop_has, ns_drop_lacks, ns_drop_lives, ns_same_set, ns_same_point, ns_same_make, ns_same_leave, ns_same_drop, ns_same_has, ns_same_lacks, ns_same_lives, ns_has_set, ns_has_point, ns_has_make, ns_has_leave, ns_has_drop, ns_has_same, ns_has_lacks, ns_has_lives, ns_lacks_set, ns_lacks_point, ns_lacks_make, ns_lacks_leave, ns_lacks_drop, ns_lacks_same, ns_lacks_has, ns_lacks_lives, ns_lives_set, ns_lives_point, ns_lives_make, ns_lives_leave, ns_lives_drop, ns_lives_same, ns_lives_has, ns_lives_lacks]
        · have q5 : w ∉ (["leave", "drop"] : List Str) := by simpa using q4
          simp only [q5, decide_false, Bool.false_eq_true, if_false]
          by_cases q6 : w = "same"
          · subst q6
            simp [hstB, gdB, ns_set_point, ns_set_make, ns_set_leave, ns_set_drop, ns_set_same, ns_set_has, ns_set_lacks, ns_set_lives, ns_point_set, ns_point_make, ns_point_leave, ns_point_drop, ns_point_same, ns_point_has, ns_point_lacks, ns_point_lives, ns_make_set, ns_make_point, ns_make_leave, ns_make_drop, ns_make_same, ns_make_has, ns_make_lacks, ns_make_lives, ns_leave_set, ns_leave_point, ns_leave_make, ns_leave_drop, ns_leave_same, ns_leave_has, ns_leave_lacks, ns_leave_lives, ns_drop_set, ns_drop_point, ns_drop_make, ns_drop_leave, ns_drop_same, ns_drop_has, ns_drop_lacks, ns_drop_lives, ns_same_set, ns_same_point, ns_same_make, ns_same_leave, ns_same_drop, ns_same_has, ns_same_lacks, ns_same_lives, ns_has_set, ns_has_point, ns_has_make, ns_has_leave, ns_has_drop, ns_has_same, ns_has_lacks, ns_has_lives, ns_lacks_set, ns_lacks_point, ns_lacks_make, ns_lacks_leave, ns_lacks_drop, ns_lacks_same, ns_lacks_has, ns_lacks_lives, ns_lives_set, ns_lives_point, ns_lives_make, ns_lives_leave, ns_lives_drop, ns_lives_same, ns_lives_has, ns_lives_lacks]
          · simp only [hstB, gdB, q1, q2, q3, q4, q6, if_false]
            by_cases q7 : w = "has" ∨ w = "lacks" ∨ w = "lives"
            · have q8 : w ∈ (["has", "lacks", "lives"] : List Str) := by simpa using q7
              simp [q7, q8]
            · have q8 : w ∉ (["has", "lacks", "lives"] : List Str) := by simpa using q7
              simp [q7, q8]
      | _ => simp [isStrD, hstB]
  | _ => simp [isTup, hstB]
end
end F

namespace F
open PySem L2
local macro_rules | `(tactic| walk_at "w") => `(tactic| simp only [w_run, w_var, w_c, w_1, w_2, w_N, w_bV, w_bNot, w_bOr, w_bAnd, w_xOr, w_xAnd, w_xNot, w_xIf, w_aNil, w_aCons, w_aStar, w_tup, w_lst, w_tupS, w_lstS, w_lstC, w_listC, w_oNone, w_oSome, w_sl, w_join, w_call, w_callS, w_chk, w_at, w_lenO, w_chain, w_tru, w_inO, w_xf, w_isX, w_eq, w_lc, w_iSeq, w_iEnu, w_iStr, w_iRng, w_yes, w_notT, w_binI, w_lenI, w_iEnuT,
  s_seq, s_nx, s_set, s_drop, s_ret, s_retN, s_if, s_asg, s_par2, s_par3, s_raise, s_ownC, s_ownL, s_mutO, s_own, s_addO, s_fldO, s_for, s_setI, s_turn,
  ex_some, ex_if, ex_none, ex_bl, ex_int, ex_str, x_addI, x_addS, x_addT, x_addL, x_sub, x_mul, x_mod, x_div, x_pow, x_lt, x_le, x_gt, x_ge, x_neg, x_int, x_abs, x_min, x_max, x_lenS, x_lenL, x_lenW, x_lenT, x_eqS, x_neS, x_eqI, x_neI, x_isN, x_notN, x_ixL, x_ixW, x_ixT, x_ixS, x_tupL, x_tupT, x_frzL, x_frzT, x_frzW, x_enuL, x_enuT, x_seqL, x_seqT, x_gN, x_g2, x_listT, x_truL, x_slT, x_lenT,
  List.getElem?_cons_zero, List.getElem?_cons_succ, List.set_cons_zero, List.set_cons_succ, List.length_nil, wipeL, decide_eq_true_eq, Bool.not_eq_true', decide_eq_false_iff_not, true_and, and_true])
/-! words of F32, F33, F34; joins of texts -/
section
variable {cs : Cells} {l : Loc} {Q : D → Cells → Prop} {E : Exn → Cells → Prop} {fa fb : XE} {t : EqT}
theorem w_strI : wp (xStrI t fa l) cs Q E ↔ wp (fa l) cs (fun x cs1 => wp (spDyn t asTx x) cs1 Q fun _ _ => False) E := by
  unfold xStrI
  simp only [wp_bd, w_nox]
theorem w_boolI : wp (xBoolI t fa l) cs Q E ↔ wp (fa l) cs (fun x cs1 => wp (spDyn t asBl x) cs1 Q fun _ _ => False) E := by
  unfold xBoolI
  simp only [wp_bd, w_nox]
theorem w_js0 {acc : Str} : wp (xJs [] acc l) cs Q E ↔ Q (.str acc) cs := Iff.rfl
theorem w_js {f : XE} {fs : List XE} {acc : Str} : wp (xJs (f :: fs) acc l) cs Q E ↔ wp (f l) cs (fun d cs1 => ∃ y, d = .str y ∧ (acc ++ y).length ≤ sizeLine ∧ wp (xJs fs (acc ++ y) l) cs1 Q E) E := by
  rw [xJs]
  rw [wp_bd]
  refine wp_iff (fun d cs' => ?_) fun _ _ => Iff.rfl
  cases d with
  | str y =>
    show wp (if (acc ++ y).length ≤ sizeLine then xJs fs (acc ++ y) l else no) cs' Q E ↔ _
    split
    · rename_i h
      exact ⟨fun z => ⟨y, rfl, h, z⟩, fun ⟨_, e, _, z⟩ => by cases e; exact z⟩
    · rename_i h
      exact ⟨fun z => z.elim, fun ⟨_, e, z, _⟩ => by cases e; exact absurd z h⟩
  | _ => exact ⟨fun z => z.elim, fun ⟨_, e, _⟩ => nomatch e⟩
theorem w_addC : wp (xAddC fa fb l) cs Q E ↔ wp (fa l) cs (fun x cs1 => wp (fb l) cs1 (fun y cs2 => ∃ zs, catC cs2 x y = some zs ∧ Q (.cel cs2.length) (cs2 ++ [.lst zs])) E) E := by
  unfold xAddC
  simp only [wp_bd, wp_rd, wp_newC]
end
section
variable {cs : Cells} {Q : D → Prop}
theorem x_srtL {ws : List Str} (h : ws.length < 64) : (∃ r, dSrt cs (.lst (ws.map D.str)) = some r ∧ Q r) ↔ Q (.lst ((srtS ws).map D.str)) := by
  have e : dSrt cs (.lst (ws.map D.str)) = some (.lst ((srtS ws).map D.str)) := by
    show (match strsOf (ws.map D.str) with | some ws => if ws.length < 64 then some (D.lst ((srtS ws).map D.str)) else none | none => none) = _
    rw [strsOf_map]
    dsimp only
    rw [if_pos h]
  rw [e]
  exact ex_some
theorem x_srtT {ws : List Str} (h : ws.length < 64) : (∃ r, dSrt cs (.tup (ws.map D.str)) = some r ∧ Q r) ↔ Q (.lst ((srtS ws).map D.str)) := by
  have e : dSrt cs (.tup (ws.map D.str)) = some (.lst ((srtS ws).map D.str)) := by
    show (match strsOf (ws.map D.str) with | some ws => if ws.length < 64 then some (D.lst ((srtS ws).map D.str)) else none | none => none) = _
    rw [strsOf_map]
    dsimp only
    rw [if_pos h]
  rw [e]
  exact ex_some
theorem x_fmt {x : Str} : (∃ r, dFmt cs (.str x) = some r ∧ Q r) ↔ Q (.str x) := ex_some
theorem x_boolT {xs : List D} : (∃ r, dBoolQ cs (.tup xs) = some r ∧ Q r) ↔ Q (.bl (!xs.isEmpty)) := ex_some
theorem x_eqBl {a b : Bool} : (∃ r, dEq cs (.bl a) (.bl b) = some r ∧ Q r) ↔ Q (.bl (decide (a = b))) := by
  cases a <;> cases b <;> exact ex_some
theorem x_neBl {a b : Bool} : (∃ r, dNe cs (.bl a) (.bl b) = some r ∧ Q r) ↔ Q (.bl (!decide (a = b))) := by
  cases a <;> cases b <;> exact ex_some
theorem isi_bB {tb : Tb} {b : Bool} : (∃ r, dIsi tb cs [.bl b, .ty "bool"] = some r ∧ Q r) ↔ Q (.bl true) := isi_bD (d := .bl b) rfl
end
theorem joinL_len (s : List Nat) : ∀ ys : List (List Nat), (TL.joinL s ys).length ≤ (ys.map List.length).sum + ys.length * s.length
  | [] => by simp [TL.joinL]
  | [x] => by simp [TL.joinL]
  | x :: y :: r => by
    have e := joinL_len s (y :: r)
    show (x ++ (s ++ TL.joinL s (y :: r))).length ≤ (x.length + ((y :: r).map List.length).sum) + ((y :: r).length + 1) * s.length
    rw [List.length_append, List.length_append, Nat.add_mul, Nat.one_mul]
    omega
theorem join_len (sep : Str) (zs : List Str) : (Txt.join sep zs).length ≤ (zs.map fun z => z.length).sum + zs.length * sep.length := by
  have e := SX.join_S sep.cps.toList (zs.map fun z => z.cps.toList)
  have e1 : (zs.map fun z => z.cps.toList).map SX.S = zs := by
    rw [List.map_map]
    exact List.map_id _
  rw [e1] at e
  have e2 : Txt.join sep zs = tx (TL.joinL sep.cps.toList (zs.map fun z => z.cps.toList)) := e
  rw [e2, tx_len]
  have h := joinL_len sep.cps.toList (zs.map fun z => z.cps.toList)
  rw [List.map_map, List.length_map] at h
  have e3 : (zs.map (List.length ∘ fun z => z.cps.toList)) = zs.map fun z => z.length := by
    apply List.map_congr_left
    intro z _
    show z.cps.toList.length = z.cps.size
    simp
  have e4 : sep.cps.toList.length = sep.length := by simp [Str.length]
  rw [e3, e4] at h
  exact h
theorem sum_le8 : ∀ {ws : List Str}, (∀ x ∈ ws, x.length ≤ 8) → (ws.map fun z => z.length).sum ≤ 8 * ws.length
  | [], _ => by simp
  | w :: ws, h => by
    have h1 := h w List.mem_cons_self
    have h2 := sum_le8 (ws := ws) fun x hx => h x (List.mem_cons_of_mem _ hx)
    show w.length + (ws.map fun z => z.length).sum ≤ 8 * (ws.length + 1)
    omega
theorem join_fit {sep : Str} {ws : List Str} (hs : sep.length ≤ 1) (h : ∀ x ∈ ws, nmS x = true) (hl : ws.length < 64) : (Txt.join sep ws).length ≤ 1000 ∧ ((ws.map fun z => z.length).sum + ws.length * sep.length) ≤ 1000 := by
  have h1 := join_len sep ws
  have h2 := sum_le8 (ws := ws) fun x hx => (nmS_len (h x hx)).2
  have h3 : ws.length * sep.length ≤ ws.length * 1 := Nat.mul_le_mul_left _ hs
  omega
section
variable {cs : Cells} {Q : D → Prop} {sep : Str} {ws : List Str}
theorem x_joinL (hs : sep.length ≤ 1) (h : ∀ x ∈ ws, nmS x = true) (hl : ws.length < 64) : (∃ r, joinD sep (.lst (ws.map D.str)) cs = some r ∧ Q r) ↔ Q (.str (Txt.join sep ws)) := by
  have e : joinD sep (.lst (ws.map D.str)) cs = some (.str (Txt.join sep ws)) := by
    show (match strsOf (ws.map D.str) with
      | some zs => if (decide ((zs.map fun (z : Str) => z.length).sum + zs.length * sep.length ≤ 1000000) && fitB (Txt.join sep zs).length) = true then some (D.str (Txt.join sep zs)) else none
      | none => none) = _
    rw [strsOf_map]
    dsimp only
    have := join_fit hs h hl
    rw [if_pos]
    rw [Bool.and_eq_true]
    exact ⟨decide_eq_true (by omega), decide_eq_true (by omega)⟩
  rw [e]
  exact ex_some
theorem x_joinT (hs : sep.length ≤ 1) (h : ∀ x ∈ ws, nmS x = true) (hl : ws.length < 64) : (∃ r, joinD sep (.tup (ws.map D.str)) cs = some r ∧ Q r) ↔ Q (.str (Txt.join sep ws)) := by
  have e : joinD sep (.tup (ws.map D.str)) cs = joinD sep (.lst (ws.map D.str)) cs := rfl
  rw [e]
  exact x_joinL hs h hl
end
theorem strs_of_nm {ds : List D} (h : ∀ d ∈ ds, isNm d = true) : ds = (ds.map strD).map D.str := by
  induction ds with
  | nil => rfl
  | cons d ds ih =>
    have h1 := h d List.mem_cons_self
    cases d <;> first | (cases h1; done) | skip
    rename_i x
    show _ :: _ = D.str x :: (ds.map strD).map D.str
    rw [← ih fun y hy => h y (List.mem_cons_of_mem _ hy)]
end F

namespace F
open PySem PySem.Spec PyProof.Rows L2 SX He
def top (i : Nat) : Stmt := PySem.Challenge.pw_erasedtrails_k01_values_made.main.body.getD i (.Pass ⟨0, 0, 0, 0⟩)
def tb : Tb := { cis := [("Value", ["people", "worked"])], isi := [(.c "BadName", .b "ValueError", true), (.c "BadName", .b "OverflowError", false), (.c "BadName", .b "LookupError", false), (.c "BadName", .b "RuntimeError", false), (.c "BadValue", .b "ValueError", true), (.c "BadValue", .b "OverflowError", false), (.c "BadValue", .b "LookupError", false), (.c "BadValue", .b "RuntimeError", false)], con := [] }
def te : Te := { exc := [("BadName", ["name"]), ("BadValue", ["value"])], exm := [("BadName", .c "BadName", true), ("BadValue", .c "BadName", false)] }
def ord : OrT := []
def freeN : List Str := ["int", "len", "abs", "min", "max", "range", "str", "list", "tuple", "bool", "isinstance", "set", "sorted", "all", "any", "enumerate", "repr", "sum", "reversed", "dict", "zip", "ValueError", "OverflowError", "LookupError", "RuntimeError", "super"]
def gloN : List Str := [("is_name" : Str), ("look_name" : Str), ("_law_bagged" : Str), ("_law_draw" : Str), ("_law_of" : Str), ("_law_one_word" : Str), ("_law_odd_one" : Str), ("_law_is_truth" : Str), ("_law_people_drawn" : Str), ("_law_refused" : Str), ("_law_right" : Str), ("law" : Str), ("BadName" : Str), ("BadValue" : Str), ("Value" : Str)]
def ntsN : List (Str × Int) := [("MOST", 8)]
def xtsN : List (Str × Str) := [("LETTERS", "abcdefghijklmnopqrstuvwxyz")]

abbrev s_BadNamex_initx : Stmt := inClass (top 1) 0
abbrev N_BadNamex_initx : List Str := ["self", "name"]
abbrev p_BadNamex_initx : List Str := ["self", "name"]
theorem sc_BadNamex_initx : FnScope N_BadNamex_initx p_BadNamex_initx (defScope s_BadNamex_initx) := ⟨rfl, rfl, rfl, by decide +kernel, rfl, by decide +kernel, by decide +kernel⟩
theorem o_BadNamex_initx {P : Program} {w : World} {K : PySem.W.Frag} {mg : Str → Option Value} {base : Heap} {Cl f : Addr} {fd : FuncData} {dvs : List V} {kws : List (Str × V)} (Fd : FunD K "__init__" "BadName.__init__" (defArgs s_BadNamex_initx) (defBody s_BadNamex_initx) (defScope s_BadNamex_initx) dvs kws f fd) : FnOk P w K mg base CX0 1 f fd p_BadNamex_initx (spE K Cl ["name"]) :=
  Fd.ok sc_BadNamex_initx (fun vs H Q Er ⟨a, ys, e, l, _⟩ => by rw [e]; simp [l]) fun cdv A outer s H vs Q Er hr h => ⟨(E.tOsB K "name" (tVar 0) (tVar 1)), PSs.nox (pss_one (E.ps_osB (pv 0) (pv 1))), by
    have l : vs.length = 2 := by
      obtain ⟨a, ys, e, l, _⟩ := h
      rw [e]
      simp [l]
    have e : L2.start N_BadNamex_initx vs = vs.map some := by
      unfold L2.start
      rw [l]
      exact List.append_nil _
    rw [e]
    exact ox1 h⟩

abbrev s_BadValuex_initx : Stmt := inClass (top 2) 0
abbrev N_BadValuex_initx : List Str := ["self", "value"]
abbrev p_BadValuex_initx : List Str := ["self", "value"]
theorem sc_BadValuex_initx : FnScope N_BadValuex_initx p_BadValuex_initx (defScope s_BadValuex_initx) := ⟨rfl, rfl, rfl, by decide +kernel, rfl, by decide +kernel, by decide +kernel⟩
theorem o_BadValuex_initx {P : Program} {w : World} {K : PySem.W.Frag} {mg : Str → Option Value} {base : Heap} {Cl f : Addr} {fd : FuncData} {dvs : List V} {kws : List (Str × V)} (Fd : FunD K "__init__" "BadValue.__init__" (defArgs s_BadValuex_initx) (defBody s_BadValuex_initx) (defScope s_BadValuex_initx) dvs kws f fd) : FnOk P w K mg base CX0 1 f fd p_BadValuex_initx (spE K Cl ["value"]) :=
  Fd.ok sc_BadValuex_initx (fun vs H Q Er ⟨a, ys, e, l, _⟩ => by rw [e]; simp [l]) fun cdv A outer s H vs Q Er hr h => ⟨(E.tOsB K "value" (tVar 0) (tVar 1)), PSs.nox (pss_one (E.ps_osB (pv 0) (pv 1))), by
    have l : vs.length = 2 := by
      obtain ⟨a, ys, e, l, _⟩ := h
      rw [e]
      simp [l]
    have e : L2.start N_BadValuex_initx vs = vs.map some := by
      unfold L2.start
      rw [l]
      exact List.append_nil _
    rw [e]
    exact ox1 h⟩

abbrev s_is_name : Stmt := top 6
abbrev N_is_name : List Str := ["thing", "letter"]
abbrev p_is_name : List Str := ["thing"]
theorem sc_is_name : FnScope N_is_name p_is_name (defScope s_is_name) := ⟨rfl, rfl, rfl, by decide +kernel, rfl, by decide +kernel, by decide +kernel⟩
def b_is_name_2 : XS :=
 (sRet (xC (.bl true)))
def b_is_name_1 : XS :=
 (sSeq (sFor (iStr (xVar 0)) (gN 1) (sIf (bV (x2 dNotIn (xVar 1) (xC (.str "abcdefghijklmnopqrstuvwxyz")))) (sRet (xC (.bl false))) sNx))
 b_is_name_2)
def b_is_name : XS :=
 (sSeq (sIf (bOr (bNot (bV (xN (dIsi tb) (aCons (xVar 0) (aCons (xC (.ty "str")) aNil))))) (bNot (bV (xChain dLe dLe (xC (.int 1)) (xN dLen (aCons (xVar 0) aNil)) (xC (.int 8)))))) (sRet (xC (.bl false))) sNx)
 b_is_name_1)
theorem j_is_name {P : Program} {w : World} {K : PySem.W.Frag} {mg : Str → Option Value} {base : Heap} (T : Fx K mg freeN gloN ntsN xtsN) (TB : TbOk ⟨P, w, K, mg⟩ tb) (TE : TeOk ⟨P, w, K, mg⟩ te) {f : Addr} (cdv : Value) (A : Around) (outer : List Env) (s : Shared) (H : Hp) (Er : XK) (hr : RmG 0 (A.deeper (envOfC "is_name" (defScope s_is_name) s.heap.objs.size f cdv))) :
    JSs (cxOf (L2.CX P w) P w K mg base N_is_name "is_name" (defScope s_is_name) f cdv A outer s H Er) {} (defBody s_is_name) b_is_name := by
  unfold b_is_name b_is_name_1 b_is_name_2
  exact (jss_cons (js_if (JW.pt (jw_or (jt_not (jt_val (fun h => pt_val h) (je_N (fun h => pe_callB (cd_isi TB) rfl (T.fr 10 rfl) (by decide +kernel) h) (ja_cons (je_var (pv 0)) (ja_cons (je_c (v := V.ty "str") (pe_bltn rfl (T.fr 6 rfl) (by decide +kernel) rfl) fun _ => .ty "str") ja_nil))))) (jw_or1 (jt_not (jt_chain (fun a b c => pt_chain od_le od_le a b c) je_int (je_N (fun h => pe_callB cd_len rfl (T.fr 1 rfl) (by decide +kernel) h) (ja_cons (je_var (pv 0)) ja_nil)) (je_c (E.pe_gc rfl (T.it 0 rfl)) fun _ => .int _)))))) (jss_one (js_ret je_bl)) jss_nil)
 (jss_cons (js_for (passes_of rfl) rfl (ji_str (je_var (pv 0))) (jg_name (pg_name (i := 1) sc_is_name.nd rfl (Or.inl rfl))) (jss_one (js_if (jt_2 (fun a b => pt_cmpR od_notIn a b rfl) (je_var (pv 1)) (je_c (E.pe_gc rfl (T.st 0 rfl)) fun _ => .str (by decide +kernel))) (jss_one (js_ret je_bl)) jss_nil)))
 (jss_one (js_ret je_bl))))
def F_is_name : List D → List D → EM D := fun ds es => match (arrP p_is_name.length 0 []) ds es with
  | some bs => fnB N_is_name.length b_is_name bs
  | none => no

abbrev s_look_name : Stmt := top 7
abbrev N_look_name : List Str := ["thing"]
abbrev p_look_name : List Str := ["thing"]
theorem sc_look_name : FnScope N_look_name p_look_name (defScope s_look_name) := ⟨rfl, rfl, rfl, by decide +kernel, rfl, by decide +kernel, by decide +kernel⟩
def b_look_name_1 : XS :=
 (sRet (xVar 0))
def b_look_name : XS :=
 (sSeq (sIf (bNot (bV (xCall (kChk ([] : List Str).length F_is_name) (aCons (xVar 0) aNil) aNil))) (sRaise "BadName" ["name"] (aCons (xVar 0) aNil)) sNx)
 b_look_name_1)
theorem j_look_name {P : Program} {w : World} {K : PySem.W.Frag} {mg : Str → Option Value} {base : Heap} (T : Fx K mg freeN gloN ntsN xtsN) (TB : TbOk ⟨P, w, K, mg⟩ tb) (TE : TeOk ⟨P, w, K, mg⟩ te) (c_is_name : CalG P w K mg base 1 "is_name" [] F_is_name) (x_BadName : ExrG P w K mg base 1 "BadName" ["name"]) {f : Addr} (cdv : Value) (A : Around) (outer : List Env) (s : Shared) (H : Hp) (Er : XK) (hr : RmG 2 (A.deeper (envOfC "look_name" (defScope s_look_name) s.heap.objs.size f cdv))) :
    JSs (cxOf (L2.CX P w) P w K mg base N_look_name "look_name" (defScope s_look_name) f cdv A outer s H Er) {} (defBody s_look_name) b_look_name := by
  unfold b_look_name b_look_name_1
  exact (jss_cons (js_if (jt_not (jt_val (fun h => pt_val h) (je_call c_is_name hr (by decide) rfl (ja_cons (je_var (pv 0)) ja_nil) jk_nil))) (jss_one (js_raise x_BadName hr (by decide) rfl rfl (ja_cons (je_var (pv 0)) ja_nil))) jss_nil)
 (jss_one (js_ret (je_var (pv 0)))))
def F_look_name : List D → List D → EM D := fun ds es => match (arrP p_look_name.length 0 []) ds es with
  | some bs => fnB N_look_name.length b_look_name bs
  | none => no

abbrev s_Valuex_initx : Stmt := inClass (top 9) 0
abbrev N_Valuex_initx : List Str := ["self", "worked", "people", "person"]
abbrev p_Valuex_initx : List Str := ["self", "worked", "people"]
theorem sc_Valuex_initx : FnScope N_Valuex_initx p_Valuex_initx (defScope s_Valuex_initx) := ⟨rfl, rfl, rfl, by decide +kernel, rfl, by decide +kernel, by decide +kernel⟩
def b_Valuex_initx_2 : XS :=
 (sFldO tb 0 "worked" (xOr (x2 dGt (xN dLen (aCons (xAtV tb 0 "people") aNil)) (xC (.int 1))) (xAnd (xVar 1) (x2 dEq (xN dLen (aCons (xAtV tb 0 "people") aNil)) (xC (.int 1))))))
def b_Valuex_initx_1 : XS :=
 (sSeq (sFldO tb 0 "people" (xN dTuple (aCons (x1 dSrt (xVar 2)) aNil)))
 b_Valuex_initx_2)
def b_Valuex_initx : XS :=
 (sSeq (sFor (iSeq (xVar 2)) (gN 3) (sDrop (xCall (kChk ([] : List Str).length F_look_name) (aCons (xVar 3) aNil) aNil)))
 b_Valuex_initx_1)
theorem j_Valuex_initx {P : Program} {w : World} {K : PySem.W.Frag} {mg : Str → Option Value} {base : Heap} (T : Fx K mg freeN gloN ntsN xtsN) (TB : TbOk ⟨P, w, K, mg⟩ tb) (TE : TeOk ⟨P, w, K, mg⟩ te) (c_look_name : CalG P w K mg base 3 "look_name" [] F_look_name) {f : Addr} (xx : Addr) (cdv : Value) (A : Around) (outer : List Env) (s : Shared) (H : Hp) (Er : XK) (hr : RmG 3 (A.deeper (envOfC "Value.__init__" (defScope s_Valuex_initx) s.heap.objs.size f cdv))) :
    JSs (cxOf (L2.CX P w) P w K mg base N_Valuex_initx "Value.__init__" (defScope s_Valuex_initx) f cdv A outer s H Er) { me := some xx } (defBody s_Valuex_initx) b_Valuex_initx := by
  unfold b_Valuex_initx b_Valuex_initx_1 b_Valuex_initx_2
  exact (jss_cons (js_for (passes_of rfl) rfl (ji_seq (je_var (pv 2))) (jg_name (pg_name (i := 3) sc_Valuex_initx.nd rfl (Or.inl rfl))) (jss_one (js_drop (je_call c_look_name hr (by decide) rfl (ja_cons (je_var (pv 3)) ja_nil) jk_nil))))
 (jss_cons (js_fldO TB (pv 0) (je_N (fun h => pe_callTy cd_tuple rfl (T.fr 8 rfl) (by decide +kernel) h) (ja_cons (je_srt rfl rfl (T.fr 12 rfl) rfl (T.fr 11 rfl) (je_var (pv 2))) ja_nil)))
 (jss_one (js_fldO TB (pv 0) (je_or (je_2 (fun a b => pe_cmpR od_gt a b (nomark _)) (je_N (fun h => pe_callB cd_len rfl (T.fr 1 rfl) (by decide +kernel) h) (ja_cons (je_atV TB (pv 0)) ja_nil)) je_int) (je_one (je_and (je_var (pv 1)) (je_one (je_2 (fun a b => pe_cmpR (od_eq hr.room.units) a b (nomark _)) (je_N (fun h => pe_callB cd_len rfl (T.fr 1 rfl) (by decide +kernel) h) (ja_cons (je_atV TB (pv 0)) ja_nil)) je_int)))))))))
def F_mk_Value_worked : List D → List D → EM D := fun ds es => match (arrS 0 fun es => some es) ds es with
  | some bs => iniB N_Valuex_initx.length b_Valuex_initx "Value" bs
  | none => no

abbrev s_Value_pure : Stmt := inClass (top 9) 1
abbrev N_Value_pure : List Str := ["self"]
abbrev p_Value_pure : List Str := ["self"]
theorem sc_Value_pure : FnScope N_Value_pure p_Value_pure (defScope s_Value_pure) := ⟨rfl, rfl, rfl, by decide +kernel, rfl, by decide +kernel, by decide +kernel⟩
def b_Value_pure : XS :=
 (sRet (xAnd (x2 dEq (xN dLen (aCons (xAtV tb 0 "people") aNil)) (xC (.int 1))) (xNot (xAtV tb 0 "worked"))))
theorem j_Value_pure {P : Program} {w : World} {K : PySem.W.Frag} {mg : Str → Option Value} {base : Heap} (T : Fx K mg freeN gloN ntsN xtsN) (TB : TbOk ⟨P, w, K, mg⟩ tb) (TE : TeOk ⟨P, w, K, mg⟩ te) {f : Addr} (cdv : Value) (A : Around) (outer : List Env) (s : Shared) (H : Hp) (Er : XK) (hr : RmG 0 (A.deeper (envOfC "Value.pure" (defScope s_Value_pure) s.heap.objs.size f cdv))) :
    JSs (cxOf (L2.CX P w) P w K mg base N_Value_pure "Value.pure" (defScope s_Value_pure) f cdv A outer s H Er) {} (defBody s_Value_pure) b_Value_pure := by
  unfold b_Value_pure
  exact (jss_one (js_ret (je_and (je_2 (fun a b => pe_cmpR (od_eq hr.room.units) a b (nomark _)) (je_N (fun h => pe_callB cd_len rfl (T.fr 1 rfl) (by decide +kernel) h) (ja_cons (je_atV TB (pv 0)) ja_nil)) je_int) (je_one (je_not (je_atV TB (pv 0)))))))
def F_Value_pure : List D → List D → EM D := fun ds es => match (arrP p_Value_pure.length 0 []) ds es with
  | some bs => fnB N_Value_pure.length b_Value_pure bs
  | none => no

def t_pure : EqT := [("Value", F_Value_pure)]

abbrev s_Valuex_strx : Stmt := inClass (top 9) 2
abbrev N_Valuex_strx : List Str := ["self"]
abbrev p_Valuex_strx : List Str := ["self"]
theorem sc_Valuex_strx : FnScope N_Valuex_strx p_Valuex_strx (defScope s_Valuex_strx) := ⟨rfl, rfl, rfl, by decide +kernel, rfl, by decide +kernel, by decide +kernel⟩
def b_Valuex_strx_1 : XS :=
 (sRet (xJoin (xC (.str "")) (xAtV tb 0 "people")))
def b_Valuex_strx : XS :=
 (sSeq (sIf (bV (xAtV tb 0 "worked")) (sRet (xJs [(xC (.str "(")), (x1 dFmt (xJoin (xC (.str " ")) (xAtV tb 0 "people"))), (xC (.str ")"))] "")) sNx)
 b_Valuex_strx_1)
theorem j_Valuex_strx {P : Program} {w : World} {K : PySem.W.Frag} {mg : Str → Option Value} {base : Heap} (T : Fx K mg freeN gloN ntsN xtsN) (TB : TbOk ⟨P, w, K, mg⟩ tb) (TE : TeOk ⟨P, w, K, mg⟩ te) {f : Addr} (cdv : Value) (A : Around) (outer : List Env) (s : Shared) (H : Hp) (Er : XK) (hr : RmG 0 (A.deeper (envOfC "Value.__str__" (defScope s_Valuex_strx) s.heap.objs.size f cdv))) :
    JSs (cxOf (L2.CX P w) P w K mg base N_Valuex_strx "Value.__str__" (defScope s_Valuex_strx) f cdv A outer s H Er) {} (defBody s_Valuex_strx) b_Valuex_strx := by
  unfold b_Valuex_strx b_Valuex_strx_1
  exact (jss_cons (js_if (jt_val (fun h => pt_val h) (je_atV TB (pv 0))) (jss_one (js_ret (je_js (JJ.cons je_str (JJ.cons (je_fmt (je_join je_str (je_atV TB (pv 0)))) (JJ.cons je_str JJ.nil)))))) jss_nil)
 (jss_one (js_ret (je_join je_str (je_atV TB (pv 0))))))
def F_Valuex_strx : List D → List D → EM D := fun ds es => match (arrP p_Valuex_strx.length 0 []) ds es with
  | some bs => fnB N_Valuex_strx.length b_Valuex_strx bs
  | none => no

def t_str : EqT := [("Value", F_Valuex_strx)]

abbrev s_Valuex_lenx : Stmt := inClass (top 9) 3
abbrev N_Valuex_lenx : List Str := ["self"]
abbrev p_Valuex_lenx : List Str := ["self"]
theorem sc_Valuex_lenx : FnScope N_Valuex_lenx p_Valuex_lenx (defScope s_Valuex_lenx) := ⟨rfl, rfl, rfl, by decide +kernel, rfl, by decide +kernel, by decide +kernel⟩
def b_Valuex_lenx : XS :=
 (sRet (xN dLen (aCons (xAtV tb 0 "people") aNil)))
theorem j_Valuex_lenx {P : Program} {w : World} {K : PySem.W.Frag} {mg : Str → Option Value} {base : Heap} (T : Fx K mg freeN gloN ntsN xtsN) (TB : TbOk ⟨P, w, K, mg⟩ tb) (TE : TeOk ⟨P, w, K, mg⟩ te) {f : Addr} (cdv : Value) (A : Around) (outer : List Env) (s : Shared) (H : Hp) (Er : XK) (hr : RmG 0 (A.deeper (envOfC "Value.__len__" (defScope s_Valuex_lenx) s.heap.objs.size f cdv))) :
    JSs (cxOf (L2.CX P w) P w K mg base N_Valuex_lenx "Value.__len__" (defScope s_Valuex_lenx) f cdv A outer s H Er) {} (defBody s_Valuex_lenx) b_Valuex_lenx := by
  unfold b_Valuex_lenx
  exact (jss_one (js_ret (je_N (fun h => pe_callB cd_len rfl (T.fr 1 rfl) (by decide +kernel) h) (ja_cons (je_atV TB (pv 0)) ja_nil))))
def F_Valuex_lenx : List D → List D → EM D := fun ds es => match (arrP p_Valuex_lenx.length 0 []) ds es with
  | some bs => fnB N_Valuex_lenx.length b_Valuex_lenx bs
  | none => no

def t_len : EqT := [("Value", F_Valuex_lenx)]

abbrev s_Valuex_containsx : Stmt := inClass (top 9) 5
abbrev N_Valuex_containsx : List Str := ["self", "name"]
abbrev p_Valuex_containsx : List Str := ["self", "name"]
theorem sc_Valuex_containsx : FnScope N_Valuex_containsx p_Valuex_containsx (defScope s_Valuex_containsx) := ⟨rfl, rfl, rfl, by decide +kernel, rfl, by decide +kernel, by decide +kernel⟩
def b_Valuex_containsx : XS :=
 (sRet (xAnd (xN (dIsi tb) (aCons (xVar 1) (aCons (xC (.ty "str")) aNil))) (x2 dIn (xVar 1) (xAtV tb 0 "people"))))
theorem j_Valuex_containsx {P : Program} {w : World} {K : PySem.W.Frag} {mg : Str → Option Value} {base : Heap} (T : Fx K mg freeN gloN ntsN xtsN) (TB : TbOk ⟨P, w, K, mg⟩ tb) (TE : TeOk ⟨P, w, K, mg⟩ te) {f : Addr} (cdv : Value) (A : Around) (outer : List Env) (s : Shared) (H : Hp) (Er : XK) (hr : RmG 0 (A.deeper (envOfC "Value.__contains__" (defScope s_Valuex_containsx) s.heap.objs.size f cdv))) :
    JSs (cxOf (L2.CX P w) P w K mg base N_Valuex_containsx "Value.__contains__" (defScope s_Valuex_containsx) f cdv A outer s H Er) {} (defBody s_Valuex_containsx) b_Valuex_containsx := by
  unfold b_Valuex_containsx
  exact (jss_one (js_ret (je_and (je_N (fun h => pe_callB (cd_isi TB) rfl (T.fr 10 rfl) (by decide +kernel) h) (ja_cons (je_var (pv 1)) (ja_cons (je_c (v := V.ty "str") (pe_bltn rfl (T.fr 6 rfl) (by decide +kernel) rfl) fun _ => .ty "str") ja_nil))) (je_one (je_2 (fun a b => pe_cmpR od_in a b rfl) (je_var (pv 1)) (je_atV TB (pv 0)))))))
def F_Valuex_containsx : List D → List D → EM D := fun ds es => match (arrP p_Valuex_containsx.length 0 []) ds es with
  | some bs => fnB N_Valuex_containsx.length b_Valuex_containsx bs
  | none => no

def t_contains : EqT := [("Value", F_Valuex_containsx)]

abbrev s_Valuex_boolx : Stmt := inClass (top 9) 6
abbrev N_Valuex_boolx : List Str := ["self"]
abbrev p_Valuex_boolx : List Str := ["self"]
theorem sc_Valuex_boolx : FnScope N_Valuex_boolx p_Valuex_boolx (defScope s_Valuex_boolx) := ⟨rfl, rfl, rfl, by decide +kernel, rfl, by decide +kernel, by decide +kernel⟩
def b_Valuex_boolx : XS :=
 (sRet (x1 dBoolQ (xAtV tb 0 "people")))
theorem j_Valuex_boolx {P : Program} {w : World} {K : PySem.W.Frag} {mg : Str → Option Value} {base : Heap} (T : Fx K mg freeN gloN ntsN xtsN) (TB : TbOk ⟨P, w, K, mg⟩ tb) (TE : TeOk ⟨P, w, K, mg⟩ te) {f : Addr} (cdv : Value) (A : Around) (outer : List Env) (s : Shared) (H : Hp) (Er : XK) (hr : RmG 0 (A.deeper (envOfC "Value.__bool__" (defScope s_Valuex_boolx) s.heap.objs.size f cdv))) :
    JSs (cxOf (L2.CX P w) P w K mg base N_Valuex_boolx "Value.__bool__" (defScope s_Valuex_boolx) f cdv A outer s H Er) {} (defBody s_Valuex_boolx) b_Valuex_boolx := by
  unfold b_Valuex_boolx
  exact (jss_one (js_ret (je_boolQ rfl (T.fr 9 rfl) (je_atV TB (pv 0)))))
def F_Valuex_boolx : List D → List D → EM D := fun ds es => match (arrP p_Valuex_boolx.length 0 []) ds es with
  | some bs => fnB N_Valuex_boolx.length b_Valuex_boolx bs
  | none => no

def t_bool : EqT := [("Value", F_Valuex_boolx)]

abbrev s_Value_of : Stmt := inClass (top 9) 9
abbrev N_Value_of : List Str := ["people", "worked"]
abbrev p_Value_of : List Str := ["people", "worked"]
theorem sc_Value_of : FnScope N_Value_of p_Value_of (defScope s_Value_of) := ⟨rfl, rfl, rfl, by decide +kernel, rfl, by decide +kernel, by decide +kernel⟩
def b_Value_of : XS :=
 (sRet (xCallS (kChk (["worked"] : List Str).length F_mk_Value_worked) (xVar 0) (aCons (xVar 1) aNil)))
theorem j_Value_of {P : Program} {w : World} {K : PySem.W.Frag} {mg : Str → Option Value} {base : Heap} (T : Fx K mg freeN gloN ntsN xtsN) (TB : TbOk ⟨P, w, K, mg⟩ tb) (TE : TeOk ⟨P, w, K, mg⟩ te) (m_Value_worked : MkrG P w K mg base 4 "Value" ["worked"] F_mk_Value_worked) {f : Addr} (cdv : Value) (A : Around) (outer : List Env) (s : Shared) (H : Hp) (Er : XK) (hr : RmG 5 (A.deeper (envOfC "Value.of" (defScope s_Value_of) s.heap.objs.size f cdv))) :
    JSs (cxOf (L2.CX P w) P w K mg base N_Value_of "Value.of" (defScope s_Value_of) f cdv A outer s H Er) {} (defBody s_Value_of) b_Value_of := by
  unfold b_Value_of
  exact (jss_one (js_ret (je_makeS m_Value_worked hr (by decide) rfl (je_var (pv 0)) (jk_cons (je_var (pv 1)) jk_nil))))
def F_Value_of : List D → List D → EM D := fun ds es => match (arrO (arrP p_Value_of.length 0 []) (arrP p_Value_of.length 0 [.bl false])) ds es with
  | some bs => fnB N_Value_of.length b_Value_of bs
  | none => no

abbrev s_law_bagged : Stmt := top 11
abbrev N_law_bagged : List Str := ["_law_script", "_law_at", "_law_cell", "_law_digits"]
abbrev p_law_bagged : List Str := ["_law_script", "_law_at"]
theorem sc_law_bagged : FnScope N_law_bagged p_law_bagged (defScope s_law_bagged) := ⟨rfl, rfl, rfl, by decide +kernel, rfl, by decide +kernel, by decide +kernel⟩
def b_law_bagged_2 : XS :=
 (sRet (xLstC (aCons (xVar 3) (aCons (x2 dAdd (x2 dAdd (x2 dMul (x2 dMod (xN dInt (aCons (xVar 2) aNil)) (xC (.int 2305843009213693951))) (xC (.int 5))) (x2 dMul (xC (.int 15787)) (xVar 1))) (xC (.int 3301))) (aCons (xC (.int 0)) aNil)))))
def b_law_bagged_1 : XS :=
 (sSeq (sSet 3 (xIf (bV (x2 dGe (xN dAbs (aCons (xVar 2) aNil)) (x2 dPow (xC (.int 10)) (xC (.int 18))))) (xN dAbs (aCons (xVar 2) aNil)) (xC (.int 0))))
 b_law_bagged_2)
def b_law_bagged : XS :=
 (sSeq (sSet 2 (xIf (bV (x2 dLt (xVar 1) (xN dLen (aCons (xVar 0) aNil)))) (x2 dIx (xVar 0) (xVar 1)) (xC (.int 0))))
 b_law_bagged_1)
theorem j_law_bagged {P : Program} {w : World} {K : PySem.W.Frag} {mg : Str → Option Value} {base : Heap} (T : Fx K mg freeN gloN ntsN xtsN) (TB : TbOk ⟨P, w, K, mg⟩ tb) (TE : TeOk ⟨P, w, K, mg⟩ te) {f : Addr} (cdv : Value) (A : Around) (outer : List Env) (s : Shared) (H : Hp) (Er : XK) (hr : RmG 0 (A.deeper (envOfC "_law_bagged" (defScope s_law_bagged) s.heap.objs.size f cdv))) :
    JSs (cxOf (L2.CX P w) P w K mg base N_law_bagged "_law_bagged" (defScope s_law_bagged) f cdv A outer s H Er) {} (defBody s_law_bagged) b_law_bagged := by
  unfold b_law_bagged b_law_bagged_1 b_law_bagged_2
  exact (jss_cons (js_set (i := 2) (fun h => ps_set (i := 2) sc_law_bagged.nd rfl (Or.inl rfl) h) (je_if (jt_2 (fun a b => pt_cmpR od_lt a b (nomark _)) (je_var (pv 1)) (je_N (fun h => pe_callB cd_len rfl (T.fr 1 rfl) (by decide +kernel) h) (ja_cons (je_var (pv 0)) ja_nil))) (je_2 (fun a b => pe_ix xd_ix a b (fun _ _ => rfl)) (je_var (pv 0)) (je_var (pv 1))) je_int))
 (jss_cons (js_set (i := 3) (fun h => ps_set (i := 3) sc_law_bagged.nd rfl (Or.inl rfl) h) (je_if (jt_2 (fun a b => pt_cmpR od_ge a b (nomark _)) (je_N (fun h => pe_callB cd_abs rfl (T.fr 2 rfl) (by decide +kernel) h) (ja_cons (je_var (pv 2)) ja_nil)) (je_2 (fun a b => pe_op od_pow a b) je_int je_int)) (je_N (fun h => pe_callB cd_abs rfl (T.fr 2 rfl) (by decide +kernel) h) (ja_cons (je_var (pv 2)) ja_nil)) je_int))
 (jss_one (js_ret (je_lstC (jl_cons (je_var (pv 3)) (jl_cons (je_2 (fun a b => pe_op od_add a b) (je_2 (fun a b => pe_op od_add a b) (je_2 (fun a b => pe_op od_mul a b) (je_2 (fun a b => pe_op od_mod a b) (je_N (fun h => pe_callTy cd_int rfl (T.fr 0 rfl) (by decide +kernel) h) (ja_cons (je_var (pv 2)) ja_nil)) je_int) je_int) (je_2 (fun a b => pe_op od_mul a b) je_int (je_var (pv 1)))) je_int) (jl_cons je_int jl_nil))))))))
def F_law_bagged : List D → List D → EM D := fun ds es => match (arrP p_law_bagged.length 0 []) ds es with
  | some bs => fnB N_law_bagged.length b_law_bagged bs
  | none => no

abbrev s_law_draw : Stmt := top 12
abbrev N_law_draw : List Str := ["_law_bag", "_law_many", "_law_digit", "_law_mixed"]
abbrev p_law_draw : List Str := ["_law_bag", "_law_many"]
theorem sc_law_draw : FnScope N_law_draw p_law_draw (defScope s_law_draw) := ⟨rfl, rfl, rfl, by decide +kernel, rfl, by decide +kernel, by decide +kernel⟩
def b_law_draw_4 : XS :=
 (sRet (x2 dMod (xN dInt (aCons (x2 dDiv (xVar 3) (xC (.int 1024))) aNil)) (xVar 1)))
def b_law_draw_3 : XS :=
 (sSeq (sSet 3 (x2 dMod (xN dInt (aCons (x2 dPow (x2 dAdd (xVar 3) (x2 dMul (xC (.int 32452867)) (x2 dIx (xVar 0) (xC (.int 2))))) (xC (.int 2))) aNil)) (xC (.int 2305843009213693951))))
 b_law_draw_4)
def b_law_draw_2 : XS :=
 (sSeq (sSet 3 (x2 dMod (xN dInt (aCons (x2 dPow (x2 dAdd (x2 dIx (xVar 0) (xC (.int 1))) (x2 dMul (xC (.int 1000003)) (x2 dIx (xVar 0) (xC (.int 2))))) (xC (.int 3))) aNil)) (xC (.int 2305843009213693921))))
 b_law_draw_3)
def b_law_draw_1 : XS :=
 (sSeq (sSetI (x2 dAdd (x2 dIx (xVar 0) (xC (.int 2))) (xC (.int 1))) (xVar 0) (xC (.int 2)))
 b_law_draw_2)
def b_law_draw : XS :=
 (sSeq (sIf (bV (x2 dGt (x2 dIx (xVar 0) (xC (.int 0))) (xC (.int 0)))) (sSeq (sSet 2 (x2 dMod (xN dInt (aCons (x2 dIx (xVar 0) (xC (.int 0))) aNil)) (xVar 1)))
 (sSeq (sSetI (x2 dDiv (x2 dIx (xVar 0) (xC (.int 0))) (xVar 1)) (xVar 0) (xC (.int 0)))
 (sRet (xVar 2)))) sNx)
 b_law_draw_1)
theorem j_law_draw {P : Program} {w : World} {K : PySem.W.Frag} {mg : Str → Option Value} {base : Heap} (T : Fx K mg freeN gloN ntsN xtsN) (TB : TbOk ⟨P, w, K, mg⟩ tb) (TE : TeOk ⟨P, w, K, mg⟩ te) {f : Addr} (cdv : Value) (A : Around) (outer : List Env) (s : Shared) (H : Hp) (Er : XK) (hr : RmG 0 (A.deeper (envOfC "_law_draw" (defScope s_law_draw) s.heap.objs.size f cdv))) :
    JSs (cxOf (L2.CX P w) P w K mg base N_law_draw "_law_draw" (defScope s_law_draw) f cdv A outer s H Er) {} (defBody s_law_draw) b_law_draw := by
  unfold b_law_draw b_law_draw_1 b_law_draw_2 b_law_draw_3 b_law_draw_4
  exact (jss_cons (js_if (jt_2 (fun a b => pt_cmpR od_gt a b (nomark _)) (je_2 (fun a b => pe_ix xd_ix a b (fun _ _ => rfl)) (je_var (pv 0)) je_int) je_int) (jss_cons (js_set (i := 2) (fun h => ps_set (i := 2) sc_law_draw.nd rfl (Or.inl rfl) h) (je_2 (fun a b => pe_op od_mod a b) (je_N (fun h => pe_callTy cd_int rfl (T.fr 0 rfl) (by decide +kernel) h) (ja_cons (je_2 (fun a b => pe_ix xd_ix a b (fun _ _ => rfl)) (je_var (pv 0)) je_int) ja_nil)) (je_var (pv 1))))
 (jss_cons (js_setI (je_var (pv 0)) je_int (je_2 (fun a b => pe_op od_div a b) (je_2 (fun a b => pe_ix xd_ix a b (fun _ _ => rfl)) (je_var (pv 0)) je_int) (je_var (pv 1))))
 (jss_one (js_ret (je_var (pv 2)))))) jss_nil)
 (jss_cons (js_setI (je_var (pv 0)) je_int (je_2 (fun a b => pe_op od_add a b) (je_2 (fun a b => pe_ix xd_ix a b (fun _ _ => rfl)) (je_var (pv 0)) je_int) je_int))
 (jss_cons (js_set (i := 3) (fun h => ps_set (i := 3) sc_law_draw.nd rfl (Or.inl rfl) h) (je_2 (fun a b => pe_op od_mod a b) (je_N (fun h => pe_callTy cd_int rfl (T.fr 0 rfl) (by decide +kernel) h) (ja_cons (je_2 (fun a b => pe_op od_pow a b) (je_2 (fun a b => pe_op od_add a b) (je_2 (fun a b => pe_ix xd_ix a b (fun _ _ => rfl)) (je_var (pv 0)) je_int) (je_2 (fun a b => pe_op od_mul a b) je_int (je_2 (fun a b => pe_ix xd_ix a b (fun _ _ => rfl)) (je_var (pv 0)) je_int))) je_int) ja_nil)) je_int))
 (jss_cons (js_set (i := 3) (fun h => ps_set (i := 3) sc_law_draw.nd rfl (Or.inl rfl) h) (je_2 (fun a b => pe_op od_mod a b) (je_N (fun h => pe_callTy cd_int rfl (T.fr 0 rfl) (by decide +kernel) h) (ja_cons (je_2 (fun a b => pe_op od_pow a b) (je_2 (fun a b => pe_op od_add a b) (je_var (pv 3)) (je_2 (fun a b => pe_op od_mul a b) je_int (je_2 (fun a b => pe_ix xd_ix a b (fun _ _ => rfl)) (je_var (pv 0)) je_int))) je_int) ja_nil)) je_int))
 (jss_one (js_ret (je_2 (fun a b => pe_op od_mod a b) (je_N (fun h => pe_callTy cd_int rfl (T.fr 0 rfl) (by decide +kernel) h) (ja_cons (je_2 (fun a b => pe_op od_div a b) (je_var (pv 3)) je_int) ja_nil)) (je_var (pv 1)))))))))
def F_law_draw : List D → List D → EM D := fun ds es => match (arrP p_law_draw.length 0 []) ds es with
  | some bs => fnB N_law_draw.length b_law_draw bs
  | none => no

abbrev s_law_of : Stmt := top 13
abbrev N_law_of : List Str := ["_law_bag", "_law_some"]
abbrev p_law_of : List Str := ["_law_bag", "_law_some"]
theorem sc_law_of : FnScope N_law_of p_law_of (defScope s_law_of) := ⟨rfl, rfl, rfl, by decide +kernel, rfl, by decide +kernel, by decide +kernel⟩
def b_law_of : XS :=
 (sRet (x2 dIx (xVar 1) (xCall (kChk ([] : List Str).length F_law_draw) (aCons (xVar 0) (aCons (xN dLen (aCons (xVar 1) aNil)) aNil)) aNil)))
theorem j_law_of {P : Program} {w : World} {K : PySem.W.Frag} {mg : Str → Option Value} {base : Heap} (T : Fx K mg freeN gloN ntsN xtsN) (TB : TbOk ⟨P, w, K, mg⟩ tb) (TE : TeOk ⟨P, w, K, mg⟩ te) (c_law_draw : CalG P w K mg base 1 "_law_draw" [] F_law_draw) {f : Addr} (cdv : Value) (A : Around) (outer : List Env) (s : Shared) (H : Hp) (Er : XK) (hr : RmG 1 (A.deeper (envOfC "_law_of" (defScope s_law_of) s.heap.objs.size f cdv))) :
    JSs (cxOf (L2.CX P w) P w K mg base N_law_of "_law_of" (defScope s_law_of) f cdv A outer s H Er) {} (defBody s_law_of) b_law_of := by
  unfold b_law_of
  exact (jss_one (js_ret (je_2 (fun a b => pe_ix xd_ix a b (fun _ _ => rfl)) (je_var (pv 1)) (je_call c_law_draw hr (by decide) rfl (ja_cons (je_var (pv 0)) (ja_cons (je_N (fun h => pe_callB cd_len rfl (T.fr 1 rfl) (by decide +kernel) h) (ja_cons (je_var (pv 1)) ja_nil)) ja_nil)) jk_nil))))
def F_law_of : List D → List D → EM D := fun ds es => match (arrP p_law_of.length 0 []) ds es with
  | some bs => fnB N_law_of.length b_law_of bs
  | none => no

abbrev s_law_one_word : Stmt := top 14
abbrev N_law_one_word : List Str := ["_law_bag", "_law_many", "_law_letters", "_law_word", "_law_turn"]
abbrev p_law_one_word : List Str := ["_law_bag", "_law_many"]
theorem sc_law_one_word : FnScope N_law_one_word p_law_one_word (defScope s_law_one_word) := ⟨rfl, rfl, rfl, by decide +kernel, rfl, by decide +kernel, by decide +kernel⟩
def b_law_one_word_2 : XS :=
 (sRet (xIf (bV (x2 dNe (xVar 3) (xC (.str "up")))) (xVar 3) (xC (.str "pu"))))
def b_law_one_word_1 : XS :=
 (sSeq (sSet 3 (xJoin (xC (.str "")) (xLc (iRng (x2 dAdd (xC (.int 1)) (xCall (kChk ([] : List Str).length F_law_draw) (aCons (xVar 0) (aCons (xVar 1) aNil)) aNil))) (gN 4) bYes (x2 dIx (xVar 2) (xCall (kChk ([] : List Str).length F_law_draw) (aCons (xVar 0) (aCons (xC (.int 26)) aNil)) aNil)) [4])))
 b_law_one_word_2)
def b_law_one_word : XS :=
 (sSeq (sSet 2 (xC (.str "abcdefghijklmnopqrstuvwxyz")))
 b_law_one_word_1)
theorem j_law_one_word {P : Program} {w : World} {K : PySem.W.Frag} {mg : Str → Option Value} {base : Heap} (T : Fx K mg freeN gloN ntsN xtsN) (TB : TbOk ⟨P, w, K, mg⟩ tb) (TE : TeOk ⟨P, w, K, mg⟩ te) (c_law_draw : CalG P w K mg base 1 "_law_draw" [] F_law_draw) {f : Addr} (cdv : Value) (A : Around) (outer : List Env) (s : Shared) (H : Hp) (Er : XK) (hr : RmG 1 (A.deeper (envOfC "_law_one_word" (defScope s_law_one_word) s.heap.objs.size f cdv))) :
    JSs (cxOf (L2.CX P w) P w K mg base N_law_one_word "_law_one_word" (defScope s_law_one_word) f cdv A outer s H Er) {} (defBody s_law_one_word) b_law_one_word := by
  unfold b_law_one_word b_law_one_word_1 b_law_one_word_2
  exact (jss_cons (js_set (i := 2) (fun h => ps_set (i := 2) sc_law_one_word.nd rfl (Or.inr rfl) h) je_str)
 (jss_cons (js_set (i := 3) (fun h => ps_set (i := 3) sc_law_one_word.nd rfl (Or.inl rfl) h) (je_join je_str (je_lc (own := [("_law_turn", 4)]) rfl sc_law_one_word.nd (ji_rng rfl (T.fr 5 rfl) (je_2 (fun a b => pe_op od_add a b) je_int (je_call c_law_draw hr (by decide) rfl (ja_cons (je_var (pv 0)) (ja_cons (je_var (pv 1)) ja_nil)) jk_nil))) (blkOk_by (own := [("_law_turn", 4)]) (N := N_law_one_word) (sc := defScope s_law_one_word) (by decide +kernel)) (fun _ _ _ _ _ => (jg_name (pg_name (i := 4) sc_law_one_word.nd rfl (Or.inl rfl)))) (fun _ _ _ _ _ => jts_nil) (fun _ _ _ _ _ => (je_2 (fun a b => pe_ix xd_ix a b (fun _ _ => rfl)) (je_var (pv 2)) (je_call c_law_draw hr (by decide) rfl (ja_cons (je_var (pv 0)) (ja_cons je_int ja_nil)) jk_nil))))))
 (jss_one (js_ret (je_if (jt_2 (fun a b => pt_cmpR (od_ne hr.room.units) a b (nomark _)) (je_var (pv 3)) je_str) (je_var (pv 3)) je_str)))))
def F_law_one_word : List D → List D → EM D := fun ds es => match (arrP p_law_one_word.length 0 []) ds es with
  | some bs => fnB N_law_one_word.length b_law_one_word bs
  | none => no

abbrev s_law_odd_one : Stmt := top 15
abbrev N_law_odd_one : List Str := ["_law_bag", "_law_at", "_law_some"]
abbrev p_law_odd_one : List Str := ["_law_bag", "_law_at"]
theorem sc_law_odd_one : FnScope N_law_odd_one p_law_odd_one (defScope s_law_odd_one) := ⟨rfl, rfl, rfl, by decide +kernel, rfl, by decide +kernel, by decide +kernel⟩
def b_law_odd_one_2 : XS :=
 (sRet (x2 dIx (xVar 2) (x2 dMod (xN dInt (aCons (x2 dAdd (xCall (kChk ([] : List Str).length F_law_draw) (aCons (xVar 0) (aCons (xN dLen (aCons (xVar 2) aNil)) aNil)) aNil) (xVar 1)) aNil)) (xN dLen (aCons (xVar 2) aNil)))))
def b_law_odd_one_1 : XS :=
 (sSeq (sSet 2 (x2 dAdd (xVar 2) (xLst (aCons (xTup (aCons (xC (.str "a")) aNil)) (aCons (xLst (aCons (xC (.str "a")) aNil)) (aCons (xLst aNil) (aCons (xTup aNil) (aCons (xLst (aCons (xLst (aCons (xC (.str "a")) aNil)) (aCons (xC .non) aNil))) (aCons (xC (.str "Ab")) (aCons (xC (.str "_")) (aCons (xC (.str "a.b")) (aCons (x2 dPow (xC (.int 10)) (xC (.int 19))) aNil))))))))))))
 b_law_odd_one_2)
def b_law_odd_one : XS :=
 (sSeq (sSet 2 (xLst (aCons (xC .non) (aCons (xC (.bl true)) (aCons (xC (.bl false)) (aCons (xC (.int 0)) (aCons (xC (.int 1)) (aCons (x1 dNeg (xC (.int 7))) (aCons (xC (.str "")) (aCons (xC (.str "A")) (aCons (xC (.str "a b")) (aCons (xC (.str "a1")) (aCons (xC (.str "abcdefghi")) (aCons (xC (.str " a")) (aCons (xC (.str "a\n")) (aCons (xC (.str "(a)")) (aCons (xC (.str "aa-b")) aNil)))))))))))))))))
 b_law_odd_one_1)
theorem j_law_odd_one {P : Program} {w : World} {K : PySem.W.Frag} {mg : Str → Option Value} {base : Heap} (T : Fx K mg freeN gloN ntsN xtsN) (TB : TbOk ⟨P, w, K, mg⟩ tb) (TE : TeOk ⟨P, w, K, mg⟩ te) (c_law_draw : CalG P w K mg base 1 "_law_draw" [] F_law_draw) {f : Addr} (cdv : Value) (A : Around) (outer : List Env) (s : Shared) (H : Hp) (Er : XK) (hr : RmG 1 (A.deeper (envOfC "_law_odd_one" (defScope s_law_odd_one) s.heap.objs.size f cdv))) :
    JSs (cxOf (L2.CX P w) P w K mg base N_law_odd_one "_law_odd_one" (defScope s_law_odd_one) f cdv A outer s H Er) {} (defBody s_law_odd_one) b_law_odd_one := by
  unfold b_law_odd_one b_law_odd_one_1 b_law_odd_one_2
  exact (jss_cons (js_set (i := 2) (fun h => ps_set (i := 2) sc_law_odd_one.nd rfl (Or.inl rfl) h) (je_lst (jl_cons je_non (jl_cons je_bl (jl_cons je_bl (jl_cons je_int (jl_cons je_int (jl_cons (je_1 (fun a => pe_un ud_neg a) je_int) (jl_cons je_str (jl_cons je_str (jl_cons je_str (jl_cons je_str (jl_cons je_str (jl_cons je_str (jl_cons je_str (jl_cons je_str (jl_cons je_str jl_nil)))))))))))))))))
 (jss_cons (js_set (i := 2) (fun h => ps_set (i := 2) sc_law_odd_one.nd rfl (Or.inl rfl) h) (je_2 (fun a b => pe_op od_add a b) (je_var (pv 2)) (je_lst (jl_cons (je_tup (jl_cons je_str jl_nil)) (jl_cons (je_lst (jl_cons je_str jl_nil)) (jl_cons (je_lst jl_nil) (jl_cons (je_tup jl_nil) (jl_cons (je_lst (jl_cons (je_lst (jl_cons je_str jl_nil)) (jl_cons je_non jl_nil))) (jl_cons je_str (jl_cons je_str (jl_cons je_str (jl_cons (je_2 (fun a b => pe_op od_pow a b) je_int je_int) jl_nil))))))))))))
 (jss_one (js_ret (je_2 (fun a b => pe_ix xd_ix a b (fun _ _ => rfl)) (je_var (pv 2)) (je_2 (fun a b => pe_op od_mod a b) (je_N (fun h => pe_callTy cd_int rfl (T.fr 0 rfl) (by decide +kernel) h) (ja_cons (je_2 (fun a b => pe_op od_add a b) (je_call c_law_draw hr (by decide) rfl (ja_cons (je_var (pv 0)) (ja_cons (je_N (fun h => pe_callB cd_len rfl (T.fr 1 rfl) (by decide +kernel) h) (ja_cons (je_var (pv 2)) ja_nil)) ja_nil)) jk_nil) (je_var (pv 1))) ja_nil)) (je_N (fun h => pe_callB cd_len rfl (T.fr 1 rfl) (by decide +kernel) h) (ja_cons (je_var (pv 2)) ja_nil))))))))
def F_law_odd_one : List D → List D → EM D := fun ds es => match (arrP p_law_odd_one.length 0 []) ds es with
  | some bs => fnB N_law_odd_one.length b_law_odd_one bs
  | none => no

abbrev s_law_is_truth : Stmt := top 16
abbrev N_law_is_truth : List Str := ["_law_thing", "_law_due"]
abbrev p_law_is_truth : List Str := ["_law_thing", "_law_due"]
theorem sc_law_is_truth : FnScope N_law_is_truth p_law_is_truth (defScope s_law_is_truth) := ⟨rfl, rfl, rfl, by decide +kernel, rfl, by decide +kernel, by decide +kernel⟩
def b_law_is_truth : XS :=
 (sRet (xAnd (xN (dIsi tb) (aCons (xVar 0) (aCons (xC (.ty "bool")) aNil))) (x2 dEq (xVar 0) (xVar 1))))
theorem j_law_is_truth {P : Program} {w : World} {K : PySem.W.Frag} {mg : Str → Option Value} {base : Heap} (T : Fx K mg freeN gloN ntsN xtsN) (TB : TbOk ⟨P, w, K, mg⟩ tb) (TE : TeOk ⟨P, w, K, mg⟩ te) {f : Addr} (cdv : Value) (A : Around) (outer : List Env) (s : Shared) (H : Hp) (Er : XK) (hr : RmG 0 (A.deeper (envOfC "_law_is_truth" (defScope s_law_is_truth) s.heap.objs.size f cdv))) :
    JSs (cxOf (L2.CX P w) P w K mg base N_law_is_truth "_law_is_truth" (defScope s_law_is_truth) f cdv A outer s H Er) {} (defBody s_law_is_truth) b_law_is_truth := by
  unfold b_law_is_truth
  exact (jss_one (js_ret (je_and (je_N (fun h => pe_callB (cd_isi TB) rfl (T.fr 10 rfl) (by decide +kernel) h) (ja_cons (je_var (pv 0)) (ja_cons (je_c (v := V.ty "bool") (pe_bltn rfl (T.fr 9 rfl) (by decide +kernel) rfl) fun _ => .ty "bool") ja_nil))) (je_one (je_2 (fun a b => pe_cmpR (od_eq hr.room.units) a b (nomark _)) (je_var (pv 0)) (je_var (pv 1)))))))
def F_law_is_truth : List D → List D → EM D := fun ds es => match (arrP p_law_is_truth.length 0 []) ds es with
  | some bs => fnB N_law_is_truth.length b_law_is_truth bs
  | none => no

abbrev s_law_people_drawn : Stmt := top 17
abbrev N_law_people_drawn : List Str := ["_law_bag", "_law_pool", "_law_turn"]
abbrev p_law_people_drawn : List Str := ["_law_bag"]
theorem sc_law_people_drawn : FnScope N_law_people_drawn p_law_people_drawn (defScope s_law_people_drawn) := ⟨rfl, rfl, rfl, by decide +kernel, rfl, by decide +kernel, by decide +kernel⟩
def b_law_people_drawn_1 : XS :=
 (sRet (xTup (aCons (xVar 1) (aCons (xLc (iRng (xCall (kChk ([] : List Str).length F_law_of) (aCons (xVar 0) (aCons (xLst (aCons (xC (.int 0)) (aCons (xC (.int 1)) (aCons (xC (.int 1)) (aCons (xC (.int 2)) (aCons (xC (.int 3)) (aCons (xC (.int 6)) (aCons (xC (.int 20)) aNil)))))))) aNil)) aNil)) (gN 2) bYes (xCall (kChk ([] : List Str).length F_law_of) (aCons (xVar 0) (aCons (xVar 1) aNil)) aNil) [2]) aNil))))
def b_law_people_drawn : XS :=
 (sSeq (sSet 1 (xLst (aCons (xCall (kChk ([] : List Str).length F_law_one_word) (aCons (xVar 0) (aCons (xC (.int 8)) aNil)) aNil) (aCons (xCall (kChk ([] : List Str).length F_law_one_word) (aCons (xVar 0) (aCons (xC (.int 3)) aNil)) aNil) (aCons (xCall (kChk ([] : List Str).length F_law_one_word) (aCons (xVar 0) (aCons (xC (.int 8)) aNil)) aNil) aNil)))))
 b_law_people_drawn_1)
theorem j_law_people_drawn {P : Program} {w : World} {K : PySem.W.Frag} {mg : Str → Option Value} {base : Heap} (T : Fx K mg freeN gloN ntsN xtsN) (TB : TbOk ⟨P, w, K, mg⟩ tb) (TE : TeOk ⟨P, w, K, mg⟩ te) (c_law_one_word : CalG P w K mg base 2 "_law_one_word" [] F_law_one_word) (c_law_of : CalG P w K mg base 2 "_law_of" [] F_law_of) {f : Addr} (cdv : Value) (A : Around) (outer : List Env) (s : Shared) (H : Hp) (Er : XK) (hr : RmG 2 (A.deeper (envOfC "_law_people_drawn" (defScope s_law_people_drawn) s.heap.objs.size f cdv))) :
    JSs (cxOf (L2.CX P w) P w K mg base N_law_people_drawn "_law_people_drawn" (defScope s_law_people_drawn) f cdv A outer s H Er) {} (defBody s_law_people_drawn) b_law_people_drawn := by
  unfold b_law_people_drawn b_law_people_drawn_1
  exact (jss_cons (js_set (i := 1) (fun h => ps_set (i := 1) sc_law_people_drawn.nd rfl (Or.inr rfl) h) (je_lst (jl_cons (je_call c_law_one_word hr (by decide) rfl (ja_cons (je_var (pv 0)) (ja_cons je_int ja_nil)) jk_nil) (jl_cons (je_call c_law_one_word hr (by decide) rfl (ja_cons (je_var (pv 0)) (ja_cons je_int ja_nil)) jk_nil) (jl_cons (je_call c_law_one_word hr (by decide) rfl (ja_cons (je_var (pv 0)) (ja_cons je_int ja_nil)) jk_nil) jl_nil)))))
 (jss_one (js_ret (je_tup (jl_cons (je_var (pv 1)) (jl_cons (je_lc (own := [("_law_turn", 2)]) rfl sc_law_people_drawn.nd (ji_rng rfl (T.fr 5 rfl) (je_call c_law_of hr (by decide) rfl (ja_cons (je_var (pv 0)) (ja_cons (je_lst (jl_cons je_int (jl_cons je_int (jl_cons je_int (jl_cons je_int (jl_cons je_int (jl_cons je_int (jl_cons je_int jl_nil)))))))) ja_nil)) jk_nil)) (blkOk_by (own := [("_law_turn", 2)]) (N := N_law_people_drawn) (sc := defScope s_law_people_drawn) (by decide +kernel)) (fun _ _ _ _ _ => (jg_name (pg_name (i := 2) sc_law_people_drawn.nd rfl (Or.inl rfl)))) (fun _ _ _ _ _ => jts_nil) (fun _ _ _ _ _ => (je_call c_law_of hr (by decide) rfl (ja_cons (je_var (pv 0)) (ja_cons (je_var (pv 1)) ja_nil)) jk_nil))) jl_nil))))))
def F_law_people_drawn : List D → List D → EM D := fun ds es => match (arrP p_law_people_drawn.length 0 []) ds es with
  | some bs => fnB N_law_people_drawn.length b_law_people_drawn bs
  | none => no

abbrev s_law_refused : Stmt := top 18
abbrev N_law_refused : List Str := ["_law_bag", "_law_people", "_law_first", "_law_spoilt", "_law_name", "_law_got", "e"]
abbrev p_law_refused : List Str := ["_law_bag", "_law_people"]
theorem sc_law_refused : FnScope N_law_refused p_law_refused (defScope s_law_refused) := ⟨rfl, rfl, rfl, by decide +kernel, rfl, by decide +kernel, by decide +kernel⟩
def b_law_refused_5 : XS :=
 (sRet (x2 dEq (xVar 5) (xTup (aCons (xN dRepr (aCons (xVar 2) aNil)) (aCons (xC (.bl true)) aNil)))))
def b_law_refused_4 : XS :=
 (sSeq (sTry te (sDrop (xCall (kChk ([] : List Str).length F_Value_of) (aCons (xVar 3) (aCons (x2 dEq (xCall (kChk ([] : List Str).length F_law_draw) (aCons (xVar 0) (aCons (xC (.int 2)) aNil)) aNil) (xC (.int 0))) aNil)) aNil)) ((.c "BadName", 6, (sSet 5 (xTup (aCons (xN dRepr (aCons (xXf te "BadName" 6 "name") aNil)) (aCons (xIsX te tb 6 (.b "ValueError")) aNil))))) :: []))
 b_law_refused_5)
def b_law_refused_3 : XS :=
 (sSeq (sSet 5 (xTup aNil))
 b_law_refused_4)
def b_law_refused_2 : XS :=
 (sSeq (sFor (iSeq (xSl (xVar 1) oNone (oSome (xCall (kChk ([] : List Str).length F_law_draw) (aCons (xVar 0) (aCons (xC (.int 3)) aNil)) aNil)))) (gN 4) (sDrop (xMut gApp (xVar 3) (aCons (xVar 4) aNil))))
 b_law_refused_3)
def b_law_refused_1 : XS :=
 (sSeq (sSet 3 (xAddC (xVar 1) (xLst (aCons (xVar 2) (aCons (xCall (kChk ([] : List Str).length F_law_odd_one) (aCons (xVar 0) (aCons (xC (.int 5)) aNil)) aNil) aNil)))))
 b_law_refused_2)
def b_law_refused : XS :=
 (sSeq (sSet 2 (xCall (kChk ([] : List Str).length F_law_odd_one) (aCons (xVar 0) (aCons (xC (.int 0)) aNil)) aNil))
 b_law_refused_1)
theorem j_law_refused {P : Program} {w : World} {K : PySem.W.Frag} {mg : Str → Option Value} {base : Heap} (T : Fx K mg freeN gloN ntsN xtsN) (TB : TbOk ⟨P, w, K, mg⟩ tb) (TE : TeOk ⟨P, w, K, mg⟩ te) (c_law_odd_one : CalG P w K mg base 2 "_law_odd_one" [] F_law_odd_one) (c_law_draw : CalG P w K mg base 1 "_law_draw" [] F_law_draw) (st_Value_of : SttG P w K mg base 6 "Value" "of" [] F_Value_of) {f : Addr} (cdv : Value) (A : Around) (outer : List Env) (s : Shared) (H : Hp) (Er : XK) (hr : RmG 6 (A.deeper (envOfC "_law_refused" (defScope s_law_refused) s.heap.objs.size f cdv))) :
    JSs (cxOf (L2.CX P w) P w K mg base N_law_refused "_law_refused" (defScope s_law_refused) f cdv A outer s H Er) {} (defBody s_law_refused) b_law_refused := by
  unfold b_law_refused b_law_refused_1 b_law_refused_2 b_law_refused_3 b_law_refused_4 b_law_refused_5
  exact (jss_cons (js_set (i := 2) (fun h => ps_set (i := 2) sc_law_refused.nd rfl (Or.inl rfl) h) (je_call c_law_odd_one hr (by decide) rfl (ja_cons (je_var (pv 0)) (ja_cons je_int ja_nil)) jk_nil))
 (jss_cons (js_set (i := 3) (fun h => ps_set (i := 3) sc_law_refused.nd rfl (Or.inl rfl) h) (je_addC (je_var (pv 1)) (je_lst (jl_cons (je_var (pv 2)) (jl_cons (je_call c_law_odd_one hr (by decide) rfl (ja_cons (je_var (pv 0)) (ja_cons je_int ja_nil)) jk_nil) jl_nil)))))
 (jss_cons (js_for (passes_of rfl) rfl (ji_seq (je_sl (je_var (pv 1)) jo_none (jo_some (je_call c_law_draw hr (by decide) rfl (ja_cons (je_var (pv 0)) (ja_cons je_int ja_nil)) jk_nil)))) (jg_name (pg_name (i := 4) sc_law_refused.nd rfl (Or.inl rfl))) (jss_one (js_drop (je_mut (r := rAppend) (fun o h => pe_bm PySem.F.plainAttrs_list PySem.F.slot_list_append PySem.F.type_list_append mt_append o h) mut_app (je_var (pv 3)) (ja_cons (je_var (pv 4)) ja_nil)))))
 (jss_cons (js_set (i := 5) (fun h => ps_set (i := 5) sc_law_refused.nd rfl (Or.inl rfl) h) (je_tup jl_nil))
 (jss_cons (js_try TE rfl rfl rfl sc_law_refused.nd (fun pn xe po => (jss_one (js_drop (je_stat (E.pe_gc rfl ⟨_, (T.gl 14 rfl), rfl⟩) st_Value_of (T.gl 14 rfl) hr (by decide) (ja_cons (je_var (pv 3)) (ja_cons (je_2 (fun a b => pe_cmpR (od_eq hr.room.units) a b (nomark _)) (je_call c_law_draw hr (by decide) rfl (ja_cons (je_var (pv 0)) (ja_cons je_int ja_nil)) jk_nil) je_int) ja_nil)) jk_nil)))) (.cons (t := .c "BadName") (T.gl 12 rfl) ⟨rfl, by decide, .inl (T.gl 12 rfl)⟩ (i := 6) rfl rfl (fun aa oe cls dd pn zz zf => (jss_one (js_set (i := 5) (fun h => ps_set (i := 5) sc_law_refused.nd rfl (Or.inl rfl) h) (je_tup (jl_cons (je_N (fun h => pe_callB (cd_repr hr.gd hr.room.units) rfl (T.fr 16 rfl) (by decide +kernel) h) (ja_cons (je_xf TE zz zf (T.gl 12 rfl) (by decide) (pv 6)) ja_nil)) (jl_cons (je_isX (tg := .b "ValueError") (cv := V.ty "ValueError") TE TB zz zf rfl (T.fr 10 rfl) (pv 6) (pe_bltn rfl (T.fr 21 rfl) (by decide +kernel) rfl) rfl fun _ h => h) jl_nil)))))) .nil))
 (jss_one (js_ret (je_2 (fun a b => pe_cmpR (od_eq hr.room.units) a b (nomark _)) (je_var (pv 5)) (je_tup (jl_cons (je_N (fun h => pe_callB (cd_repr hr.gd hr.room.units) rfl (T.fr 16 rfl) (by decide +kernel) h) (ja_cons (je_var (pv 2)) ja_nil)) (jl_cons je_bl jl_nil)))))))))))
def F_law_refused : List D → List D → EM D := fun ds es => match (arrP p_law_refused.length 0 []) ds es with
  | some bs => fnB N_law_refused.length b_law_refused bs
  | none => no

abbrev s_law_right : Stmt := top 19
abbrev N_law_right : List Str := ["_law_bag", "_law_pool", "_law_people", "_law_due", "_law_is_worked", "_law_sent", "_law_value", "_law_is_due", "_law_text", "_law_thing"]
abbrev p_law_right : List Str := ["_law_bag"]
theorem sc_law_right : FnScope N_law_right p_law_right (defScope s_law_right) := ⟨rfl, rfl, rfl, by decide +kernel, rfl, by decide +kernel, by decide +kernel⟩
def b_law_right_12 : XS :=
 (sRet (xAnd (x2 dEq (xBoolI t_bool (xVar 6)) (x2 dNe (xVar 3) (xLst aNil))) (x2 dEq (xAtV tb 6 "people") (xN dTuple (aCons (xVar 3) aNil)))))
def b_law_right_11 : XS :=
 (sSeq (sFor (iSeq (x2 dAdd (xVar 1) (xLst (aCons (xCall (kChk ([] : List Str).length F_law_odd_one) (aCons (xVar 0) (aCons (xC (.int 1)) aNil)) aNil) (aCons (xCall (kChk ([] : List Str).length F_law_odd_one) (aCons (xVar 0) (aCons (xC (.int 7)) aNil)) aNil) (aCons (xVar 8) (aCons (xVar 3) aNil))))))) (gN 9) (sIf (bV (x2 dNe (xInI t_contains false (xVar 9) (xVar 6)) (xAnd (xN (dIsi tb) (aCons (xVar 9) (aCons (xC (.ty "str")) aNil))) (x2 dIn (xVar 9) (xVar 3))))) (sRet (xC (.bl false))) sNx))
 b_law_right_12)
def b_law_right_10 : XS :=
 (sSeq (sIf (bOr (bNot (bV (xCall (kChk ([] : List Str).length F_law_is_truth) (aCons (xProp t_pure (xVar 6)) (aCons (xAnd (x2 dEq (xN dLen (aCons (xVar 3) aNil)) (xC (.int 1))) (xNot (xVar 7))) aNil)) aNil))) (bOr (bV (x2 dNe (xStrI t_str (xVar 6)) (xVar 8))) (bV (x2 dNe (xLenI t_len (xVar 6)) (xN dLen (aCons (xVar 3) aNil)))))) (sRet (xC (.bl false))) sNx)
 b_law_right_11)
def b_law_right_9 : XS :=
 (sSeq (sIf (bOr (bNot (bV (xN (dIsi tb) (aCons (xAtV tb 6 "people") (aCons (xC (.ty "tuple")) aNil))))) (bOr (bV (x2 dNe (xAtV tb 6 "people") (xN dTuple (aCons (xVar 3) aNil)))) (bNot (bV (xCall (kChk ([] : List Str).length F_law_is_truth) (aCons (xAtV tb 6 "worked") (aCons (xVar 7) aNil)) aNil))))) (sRet (xC (.bl false))) sNx)
 b_law_right_10)
def b_law_right_8 : XS :=
 (sSeq (sSet 8 (xIf (bV (xVar 7)) (x2 dAdd (x2 dAdd (xC (.str "(")) (xJoin (xC (.str " ")) (xVar 3))) (xC (.str ")"))) (xJoin (xC (.str "")) (xVar 3))))
 b_law_right_9)
def b_law_right_7 : XS :=
 (sSeq (sSet 7 (xOr (x2 dGt (xN dLen (aCons (xVar 3) aNil)) (xC (.int 1))) (xAnd (xVar 4) (x2 dNe (xVar 3) (xLst aNil)))))
 b_law_right_8)
def b_law_right_6 : XS :=
 (sSeq (sDrop (xMut gApp (xVar 5) (aCons (xC (.str "later")) aNil)))
 b_law_right_7)
def b_law_right_5 : XS :=
 (sSeq (sSet 6 (xIf (bOr (bV (xVar 4)) (bV (x2 dEq (xCall (kChk ([] : List Str).length F_law_draw) (aCons (xVar 0) (aCons (xC (.int 2)) aNil)) aNil) (xC (.int 0))))) (xCall (kChk ([] : List Str).length F_Value_of) (aCons (xVar 5) (aCons (xVar 4) aNil)) aNil) (xCall (kChk ([] : List Str).length F_Value_of) (aCons (xN dTuple (aCons (xVar 2) aNil)) aNil) aNil)))
 b_law_right_6)
def b_law_right_4 : XS :=
 (sSeq (sSet 5 (xListC (xVar 2)))
 b_law_right_5)
def b_law_right_3 : XS :=
 (sSeq (sSet 4 (x2 dEq (xCall (kChk ([] : List Str).length F_law_draw) (aCons (xVar 0) (aCons (xC (.int 2)) aNil)) aNil) (xC (.int 0))))
 b_law_right_4)
def b_law_right_2 : XS :=
 (sSeq (sSet 3 (x1 dSrt (xVar 2)))
 b_law_right_3)
def b_law_right_1 : XS :=
 (sSeq (sIf (bV (x2 dEq (xCall (kChk ([] : List Str).length F_law_draw) (aCons (xVar 0) (aCons (xC (.int 4)) aNil)) aNil) (xC (.int 0)))) (sRet (xCall (kChk ([] : List Str).length F_law_refused) (aCons (xVar 0) (aCons (xVar 2) aNil)) aNil)) sNx)
 b_law_right_2)
def b_law_right : XS :=
 (sSeq (sAsg (xCall (kChk ([] : List Str).length F_law_people_drawn) (aCons (xVar 0) aNil) aNil) (gT 2 (gsCons (gN 1) (gsCons (gN 2) gsNil))))
 b_law_right_1)
theorem j_law_right {P : Program} {w : World} {K : PySem.W.Frag} {mg : Str → Option Value} {base : Heap} (T : Fx K mg freeN gloN ntsN xtsN) (TB : TbOk ⟨P, w, K, mg⟩ tb) (TE : TeOk ⟨P, w, K, mg⟩ te) (c_law_people_drawn : CalG P w K mg base 3 "_law_people_drawn" [] F_law_people_drawn) (c_law_draw : CalG P w K mg base 1 "_law_draw" [] F_law_draw) (c_law_refused : CalG P w K mg base 7 "_law_refused" [] F_law_refused) (st_Value_of : SttG P w K mg base 6 "Value" "of" [] F_Value_of) (c_law_is_truth : CalG P w K mg base 1 "_law_is_truth" [] F_law_is_truth) (h_pure : PrOk P w K mg base 1 "pure" t_pure) (h_str : SpOk P w K mg base 1 "__str__" t_str) (h_len : SpOk P w K mg base 1 "__len__" t_len) (c_law_odd_one : CalG P w K mg base 2 "_law_odd_one" [] F_law_odd_one) (h_contains : SpOk P w K mg base 1 "__contains__" t_contains) (h_bool : SpOk P w K mg base 1 "__bool__" t_bool) {f : Addr} (cdv : Value) (A : Around) (outer : List Env) (s : Shared) (H : Hp) (Er : XK) (hr : RmG 7 (A.deeper (envOfC "_law_right" (defScope s_law_right) s.heap.objs.size f cdv))) :
    JSs (cxOf (L2.CX P w) P w K mg base N_law_right "_law_right" (defScope s_law_right) f cdv A outer s H Er) {} (defBody s_law_right) b_law_right := by
  unfold b_law_right b_law_right_1 b_law_right_2 b_law_right_3 b_law_right_4 b_law_right_5 b_law_right_6 b_law_right_7 b_law_right_8 b_law_right_9 b_law_right_10 b_law_right_11 b_law_right_12
  exact (jss_cons (js_asg (je_call c_law_people_drawn hr (by decide) rfl (ja_cons (je_var (pv 0)) ja_nil) jk_nil) (jg_tup rfl (jgs_cons (jg_name (pg_name (i := 1) sc_law_right.nd rfl (Or.inl rfl))) (jgs_cons (jg_name (pg_name (i := 2) sc_law_right.nd rfl (Or.inl rfl))) jgs_nil))))
 (jss_cons (js_if (jt_2 (fun a b => pt_cmpR (od_eq hr.room.units) a b (nomark _)) (je_call c_law_draw hr (by decide) rfl (ja_cons (je_var (pv 0)) (ja_cons je_int ja_nil)) jk_nil) je_int) (jss_one (js_ret (je_call c_law_refused hr (by decide) rfl (ja_cons (je_var (pv 0)) (ja_cons (je_var (pv 2)) ja_nil)) jk_nil))) jss_nil)
 (jss_cons (js_set (i := 3) (fun h => ps_set (i := 3) sc_law_right.nd rfl (Or.inl rfl) h) (je_srt rfl rfl (T.fr 12 rfl) rfl (T.fr 11 rfl) (je_var (pv 2))))
 (jss_cons (js_set (i := 4) (fun h => ps_set (i := 4) sc_law_right.nd rfl (Or.inl rfl) h) (je_2 (fun a b => pe_cmpR (od_eq hr.room.units) a b (nomark _)) (je_call c_law_draw hr (by decide) rfl (ja_cons (je_var (pv 0)) (ja_cons je_int ja_nil)) jk_nil) je_int))
 (jss_cons (js_set (i := 5) (fun h => ps_set (i := 5) sc_law_right.nd rfl (Or.inl rfl) h) (je_listC rfl (T.fr 7 rfl) (je_var (pv 2))))
 (jss_cons (js_set (i := 6) (fun h => ps_set (i := 6) sc_law_right.nd rfl (Or.inl rfl) h) (je_if (JW.pt (jw_or (jt_val (fun h => pt_val h) (je_var (pv 4))) (jw_or1 (jt_2 (fun a b => pt_cmpR (od_eq hr.room.units) a b (nomark _)) (je_call c_law_draw hr (by decide) rfl (ja_cons (je_var (pv 0)) (ja_cons je_int ja_nil)) jk_nil) je_int)))) (je_stat (E.pe_gc rfl ⟨_, (T.gl 14 rfl), rfl⟩) st_Value_of (T.gl 14 rfl) hr (by decide) (ja_cons (je_var (pv 5)) (ja_cons (je_var (pv 4)) ja_nil)) jk_nil) (je_stat (E.pe_gc rfl ⟨_, (T.gl 14 rfl), rfl⟩) st_Value_of (T.gl 14 rfl) hr (by decide) (ja_cons (je_N (fun h => pe_callTy cd_tuple rfl (T.fr 8 rfl) (by decide +kernel) h) (ja_cons (je_var (pv 2)) ja_nil)) ja_nil) jk_nil)))
 (jss_cons (js_drop (je_mut (r := rAppend) (fun o h => pe_bm PySem.F.plainAttrs_list PySem.F.slot_list_append PySem.F.type_list_append mt_append o h) mut_app (je_var (pv 5)) (ja_cons je_str ja_nil)))
 (jss_cons (js_set (i := 7) (fun h => ps_set (i := 7) sc_law_right.nd rfl (Or.inl rfl) h) (je_or (je_2 (fun a b => pe_cmpR od_gt a b (nomark _)) (je_N (fun h => pe_callB cd_len rfl (T.fr 1 rfl) (by decide +kernel) h) (ja_cons (je_var (pv 3)) ja_nil)) je_int) (je_one (je_and (je_var (pv 4)) (je_one (je_2 (fun a b => pe_cmpR (od_ne hr.room.units) a b (nomark _)) (je_var (pv 3)) (je_lst jl_nil)))))))
 (jss_cons (js_set (i := 8) (fun h => ps_set (i := 8) sc_law_right.nd rfl (Or.inl rfl) h) (je_if (jt_val (fun h => pt_val h) (je_var (pv 7))) (je_2 (fun a b => pe_op od_add a b) (je_2 (fun a b => pe_op od_add a b) je_str (je_join je_str (je_var (pv 3)))) je_str) (je_join je_str (je_var (pv 3)))))
 (jss_cons (js_if (JW.pt (jw_or (jt_not (jt_val (fun h => pt_val h) (je_N (fun h => pe_callB (cd_isi TB) rfl (T.fr 10 rfl) (by decide +kernel) h) (ja_cons (je_atV TB (pv 6)) (ja_cons (je_c (v := V.ty "tuple") (pe_bltn rfl (T.fr 8 rfl) (by decide +kernel) rfl) fun _ => .ty "tuple") ja_nil))))) (jw_or (jt_2 (fun a b => pt_cmpR (od_ne hr.room.units) a b (nomark _)) (je_atV TB (pv 6)) (je_N (fun h => pe_callTy cd_tuple rfl (T.fr 8 rfl) (by decide +kernel) h) (ja_cons (je_var (pv 3)) ja_nil))) (jw_or1 (jt_not (jt_val (fun h => pt_val h) (je_call c_law_is_truth hr (by decide) rfl (ja_cons (je_atV TB (pv 6)) (ja_cons (je_var (pv 7)) ja_nil)) jk_nil))))))) (jss_one (js_ret je_bl)) jss_nil)
 (jss_cons (js_if (JW.pt (jw_or (jt_not (jt_val (fun h => pt_val h) (je_call c_law_is_truth hr (by decide) rfl (ja_cons (je_prop h_pure hr (by decide) (je_var (pv 6))) (ja_cons (je_and (je_2 (fun a b => pe_cmpR (od_eq hr.room.units) a b (nomark _)) (je_N (fun h => pe_callB cd_len rfl (T.fr 1 rfl) (by decide +kernel) h) (ja_cons (je_var (pv 3)) ja_nil)) je_int) (je_one (je_not (je_var (pv 7))))) ja_nil)) jk_nil))) (jw_or (jt_2 (fun a b => pt_cmpR (od_ne hr.room.units) a b (nomark _)) (je_strI h_str hr (by decide) rfl (T.fr 6 rfl) (je_var (pv 6))) (je_var (pv 8))) (jw_or1 (jt_2 (fun a b => pt_cmpR (od_ne hr.room.units) a b (nomark _)) (je_lenI h_len hr (by decide) rfl (T.fr 1 rfl) (je_var (pv 6))) (je_N (fun h => pe_callB cd_len rfl (T.fr 1 rfl) (by decide +kernel) h) (ja_cons (je_var (pv 3)) ja_nil))))))) (jss_one (js_ret je_bl)) jss_nil)
 (jss_cons (js_for (passes_of rfl) rfl (ji_seq (je_2 (fun a b => pe_op od_add a b) (je_var (pv 1)) (je_lst (jl_cons (je_call c_law_odd_one hr (by decide) rfl (ja_cons (je_var (pv 0)) (ja_cons je_int ja_nil)) jk_nil) (jl_cons (je_call c_law_odd_one hr (by decide) rfl (ja_cons (je_var (pv 0)) (ja_cons je_int ja_nil)) jk_nil) (jl_cons (je_var (pv 8)) (jl_cons (je_var (pv 3)) jl_nil))))))) (jg_name (pg_name (i := 9) sc_law_right.nd rfl (Or.inl rfl))) (jss_one (js_if (jt_2 (fun a b => pt_cmpR (od_ne hr.room.units) a b (nomark _)) (je_inI (fun a b => pe_cmpR (od_inI h_contains (hr.mono (j := 1) (by decide))) a b rfl) (je_var (pv 9)) (je_var (pv 6))) (je_and (je_N (fun h => pe_callB (cd_isi TB) rfl (T.fr 10 rfl) (by decide +kernel) h) (ja_cons (je_var (pv 9)) (ja_cons (je_c (v := V.ty "str") (pe_bltn rfl (T.fr 6 rfl) (by decide +kernel) rfl) fun _ => .ty "str") ja_nil))) (je_one (je_2 (fun a b => pe_cmpR od_in a b rfl) (je_var (pv 9)) (je_var (pv 3)))))) (jss_one (js_ret je_bl)) jss_nil)))
 (jss_one (js_ret (je_and (je_2 (fun a b => pe_cmpR (od_eq hr.room.units) a b (nomark _)) (je_boolI h_bool hr (by decide) rfl (T.fr 9 rfl) (je_var (pv 6))) (je_2 (fun a b => pe_cmpR (od_ne hr.room.units) a b (nomark _)) (je_var (pv 3)) (je_lst jl_nil))) (je_one (je_2 (fun a b => pe_cmpR (od_eq hr.room.units) a b (nomark _)) (je_atV TB (pv 6)) (je_N (fun h => pe_callTy cd_tuple rfl (T.fr 8 rfl) (by decide +kernel) h) (ja_cons (je_var (pv 3)) ja_nil)))))))))))))))))))
def F_law_right : List D → List D → EM D := fun ds es => match (arrP p_law_right.length 0 []) ds es with
  | some bs => fnB N_law_right.length b_law_right bs
  | none => no

abbrev s_law : Stmt := top 20
abbrev N_law : List Str := ["_law_script", "_law_at"]
abbrev p_law : List Str := ["_law_script"]
theorem sc_law : FnScope N_law p_law (defScope s_law) := ⟨rfl, rfl, rfl, by decide +kernel, rfl, by decide +kernel, by decide +kernel⟩
def b_law_1 : XS :=
 (sRet (xC (.bl true)))
def b_law : XS :=
 (sSeq (sFor (iRng (xN dMax (aCons (xC (.int 1)) (aCons (xN dMin (aCons (xC (.int 8)) (aCons (xN dLen (aCons (xVar 0) aNil)) aNil))) aNil)))) (gN 1) (sIf (bNot (bV (xCall (kChk ([] : List Str).length F_law_right) (aCons (xCall (kChk ([] : List Str).length F_law_bagged) (aCons (xVar 0) (aCons (xVar 1) aNil)) aNil) aNil) aNil))) (sRet (xC (.bl false))) sNx))
 b_law_1)
theorem j_law {P : Program} {w : World} {K : PySem.W.Frag} {mg : Str → Option Value} {base : Heap} (T : Fx K mg freeN gloN ntsN xtsN) (TB : TbOk ⟨P, w, K, mg⟩ tb) (TE : TeOk ⟨P, w, K, mg⟩ te) (c_law_right : CalG P w K mg base 8 "_law_right" [] F_law_right) (c_law_bagged : CalG P w K mg base 1 "_law_bagged" [] F_law_bagged) {f : Addr} (cdv : Value) (A : Around) (outer : List Env) (s : Shared) (H : Hp) (Er : XK) (hr : RmG 8 (A.deeper (envOfC "law" (defScope s_law) s.heap.objs.size f cdv))) :
    JSs (cxOf (L2.CX P w) P w K mg base N_law "law" (defScope s_law) f cdv A outer s H Er) {} (defBody s_law) b_law := by
  unfold b_law b_law_1
  exact (jss_cons (js_for (passes_of rfl) rfl (ji_rng rfl (T.fr 5 rfl) (je_N (fun h => pe_callB (cd_max rfl) rfl (T.fr 4 rfl) (by decide +kernel) h) (ja_cons je_int (ja_cons (je_N (fun h => pe_callB (cd_min rfl) rfl (T.fr 3 rfl) (by decide +kernel) h) (ja_cons je_int (ja_cons (je_N (fun h => pe_callB cd_len rfl (T.fr 1 rfl) (by decide +kernel) h) (ja_cons (je_var (pv 0)) ja_nil)) ja_nil))) ja_nil)))) (jg_name (pg_name (i := 1) sc_law.nd rfl (Or.inl rfl))) (jss_one (js_if (jt_not (jt_val (fun h => pt_val h) (je_call c_law_right hr (by decide) rfl (ja_cons (je_call c_law_bagged hr (by decide) rfl (ja_cons (je_var (pv 0)) (ja_cons (je_var (pv 1)) ja_nil)) jk_nil) ja_nil) jk_nil))) (jss_one (js_ret je_bl)) jss_nil)))
 (jss_one (js_ret je_bl)))
def F_law : List D → List D → EM D := fun ds es => match (arrP p_law.length 0 []) ds es with
  | some bs => fnB N_law.length b_law bs
  | none => no

end F

namespace F
open PySem PySem.Spec PyProof.Rows L2 He E
def dfs : List Df := [
  { ad := fun K => ma K (ga K "BadName") "__init__", name := "__init__", qual := "BadName.__init__", st := inClass (top 1) 0 },
  { ad := fun K => ma K (ga K "BadValue") "__init__", name := "__init__", qual := "BadValue.__init__", st := inClass (top 2) 0 },
  { ad := fun K => ga K "is_name", name := "is_name", qual := "is_name", st := top 6 },
  { ad := fun K => ga K "look_name", name := "look_name", qual := "look_name", st := top 7 },
  { ad := fun K => ma K (ga K "Value") "__init__", name := "__init__", qual := "Value.__init__", st := inClass (top 9) 0, kwd := [("worked", .bl false)] },
  { ad := fun K => prAd K (ga K "Value") "pure", name := "pure", qual := "Value.pure", st := inClass (top 9) 1 },
  { ad := fun K => ma K (ga K "Value") "__str__", name := "__str__", qual := "Value.__str__", st := inClass (top 9) 2 },
  { ad := fun K => ma K (ga K "Value") "__len__", name := "__len__", qual := "Value.__len__", st := inClass (top 9) 3 },
  { ad := fun K => ma K (ga K "Value") "__contains__", name := "__contains__", qual := "Value.__contains__", st := inClass (top 9) 5 },
  { ad := fun K => ma K (ga K "Value") "__bool__", name := "__bool__", qual := "Value.__bool__", st := inClass (top 9) 6 },
  { ad := fun K => stAd K (ga K "Value") "of", name := "of", qual := "Value.of", st := inClass (top 9) 9, dfl := [.bl false] },
  { ad := fun K => ga K "_law_bagged", name := "_law_bagged", qual := "_law_bagged", st := top 11 },
  { ad := fun K => ga K "_law_draw", name := "_law_draw", qual := "_law_draw", st := top 12 },
  { ad := fun K => ga K "_law_of", name := "_law_of", qual := "_law_of", st := top 13 },
  { ad := fun K => ga K "_law_one_word", name := "_law_one_word", qual := "_law_one_word", st := top 14 },
  { ad := fun K => ga K "_law_odd_one", name := "_law_odd_one", qual := "_law_odd_one", st := top 15 },
  { ad := fun K => ga K "_law_is_truth", name := "_law_is_truth", qual := "_law_is_truth", st := top 16 },
  { ad := fun K => ga K "_law_people_drawn", name := "_law_people_drawn", qual := "_law_people_drawn", st := top 17 },
  { ad := fun K => ga K "_law_refused", name := "_law_refused", qual := "_law_refused", st := top 18 },
  { ad := fun K => ga K "_law_right", name := "_law_right", qual := "_law_right", st := top 19 },
  { ad := fun K => ga K "law", name := "law", qual := "law", st := top 20 }]
def bfs (K : PySem.W.Frag) : List Bool := [fxB K freeN gloN ntsN xtsN, tbB K tb, teB K te, ordB K tb ord, exrB K "BadName" .v ["name"], exrB K "BadValue" .v ["value"], mkB K (ga K "Value") (ma K (ga K "Value") "__init__"), statB K (ga K "Value") "of", spB K (ga K "Value") "__str__" (ma K (ga K "Value") "__str__"), spB K (ga K "Value") "__len__" (ma K (ga K "Value") "__len__"), spB K (ga K "Value") "__contains__" (ma K (ga K "Value") "__contains__"), spB K (ga K "Value") "__bool__" (ma K (ga K "Value") "__bool__"), propB K (ga K "Value") "pure"]
def exH (K : PySem.W.Frag) : Bool := (bfs K).all id
abbrev Rw : PySem.W.OpenRow := PySem.W.OpenLaw.row PySem.Challenge.rw_erasedtrails_k01_values_made
abbrev hkF : PySem.W.Hook := hookE 7 exH dfs
def obF (s : PySem.W.SharedT) : AlE := obsEG 7 exH dfs (HandSHeadRun.getT s)
theorem obF_eq (s : PySem.W.SharedT) : obF s = hkF.obs s.abs := obsEG_eq (HandSHeadRun.getT_eq s)
def looseN : List Str := [("BadName" : Str), ("BadValue" : Str), ("LETTERS" : Str), ("MOST" : Str), ("is_name" : Str), ("look_name" : Str), ("Value" : Str), ("_law_bagged" : Str), ("_law_draw" : Str), ("_law_of" : Str), ("_law_one_word" : Str), ("_law_odd_one" : Str), ("_law_is_truth" : Str), ("_law_people_drawn" : Str), ("_law_refused" : Str), ("_law_right" : Str), ("__name__" : Str)]
theorem runF (w : World) : HandSHeadRun.RunEq Rw (PySem.W.view Rw.prog [20]) hkF obF 20000 looseN w := by
  intro os
  kernel_rfl
end F

namespace F
open PySem L2
local macro_rules | `(tactic| walk_at "w") => `(tactic| simp only [w_run, w_var, w_c, w_1, w_2, w_N, w_bV, w_bNot, w_bOr, w_bAnd, w_xOr, w_xAnd, w_xNot, w_xIf, w_aNil, w_aCons, w_aStar, w_tup, w_lst, w_tupS, w_lstS, w_lstC, w_listC, w_oNone, w_oSome, w_sl, w_join, w_call, w_callS, w_chk, w_at, w_lenO, w_chain, w_tru, w_inO, w_xf, w_isX, w_eq, w_lc, w_iSeq, w_iEnu, w_iStr, w_iRng, w_yes, w_notT, w_binI, w_lenI, w_iEnuT, w_inI, w_prop, w_strI, w_boolI, w_js0, w_js, w_addC,
  s_seq, s_nx, s_set, s_drop, s_ret, s_retN, s_if, s_asg, s_par2, s_par3, s_raise, s_ownC, s_ownL, s_mutO, s_own, s_addO, s_fldO, s_for, s_setI, s_turn,
  ex_some, ex_if, ex_none, ex_bl, ex_int, ex_str, x_addI, x_addS, x_addT, x_addL, x_sub, x_mul, x_mod, x_div, x_pow, x_lt, x_le, x_gt, x_ge, x_neg, x_int, x_abs, x_min, x_max, x_lenS, x_lenL, x_lenW, x_lenT, x_eqS, x_neS, x_eqI, x_neI, x_isN, x_notN, x_ixL, x_ixW, x_ixT, x_ixS, x_tupL, x_tupT, x_frzL, x_frzT, x_frzW, x_enuL, x_enuT, x_seqL, x_seqT, x_gN, x_g2, x_listT, x_truL, x_slT, x_lenT, x_slL, x_fmt, x_boolT, x_eqBl, x_neBl, isi_bB, isi_t, x_inL, x_inT,
  List.getElem?_cons_zero, List.getElem?_cons_succ, List.set_cons_zero, List.set_cons_succ, List.length_nil, wipeL, decide_eq_true_eq, Bool.not_eq_true', decide_eq_false_iff_not, true_and, and_true])
theorem e_draw : F_law_draw = H_law_draw := rfl
theorem e_bagged : F_law_bagged = H_law_bagged := rfl
theorem e_of : F_law_of = H_law_of := rfl
theorem e_odd : F_law_odd_one = H_law_odd_one := rfl
theorem e_nm : F_look_name = H_look_name tb := rfl
/-- a value, as it is told -/
abbrev valD (ws : List Str) (wk : Bool) : D := .ins "Value" [("people", .tup (ws.map D.str)), ("worked", .bl wk)]
def wkd (n : Nat) (wk : Bool) : Bool := decide (1 < n) || (wk && decide (n = 1))
theorem tb_v : tb.has "Value" = true := by decide +kernel
theorem tb_p : tb.fld "Value" "people" = true := by decide +kernel
theorem tb_w : tb.fld "Value" "worked" = true := by decide +kernel
theorem fld_p {n : Nat} (h : n < 900) : (tb.fld "Value" "people" && decide (n < 900)) = true := by
  rw [decide_eq_true h, tb_p]
  rfl
theorem fld_w {n : Nat} (h : n < 900) : (tb.fld "Value" "worked" && decide (n < 900)) = true := by
  rw [decide_eq_true h, tb_w]
  rfl
theorem putV1 {v : D} : putD "people" v [] = ([("people", v)] : List (Str × D)) := rfl
theorem putV2 {u v : D} : putD "worked" v [("people", u)] = ([("people", u), ("worked", v)] : List (Str × D)) := by
  simp only [putD, show (("people" : Str) = "worked") = False from eq_false (by decide +kernel), if_false]
section
variable {cs : Cells} {Q : D → Prop} {ws : List Str} {wk : Bool} {u v : D}
theorem att_p1 : (∃ r, attI tb "Value" "people" [("people", u)] = some r ∧ Q r) ↔ Q u := by
  have e : attI tb "Value" "people" [("people", u)] = some u := by
    unfold attI fldI
    rw [if_pos tb_v, if_pos tb_p]
    simp only [List.lookup, show (("people" : Str) == "people") = true by decide +kernel]
  rw [e]
  exact ex_some
theorem atv_p : (∃ r, dAt tb "people" cs (valD ws wk) = some r ∧ Q r) ↔ Q (.tup (ws.map D.str)) := by
  have e : dAt tb "people" cs (valD ws wk) = some (.tup (ws.map D.str)) := by
    show attI tb "Value" "people" _ = _
    unfold attI fldI
    rw [if_pos tb_v, if_pos tb_p]
    simp only [List.lookup, show (("people" : Str) == "people") = true by decide +kernel]
  rw [e]
  exact ex_some
theorem atv_w : (∃ r, dAt tb "worked" cs (valD ws wk) = some r ∧ Q r) ↔ Q (.bl wk) := by
  have e : dAt tb "worked" cs (valD ws wk) = some (.bl wk) := by
    show attI tb "Value" "worked" _ = _
    unfold attI fldI
    rw [if_pos tb_v, if_pos tb_w]
    simp only [List.lookup, show (("worked" : Str) == "people") = false by decide +kernel, show (("worked" : Str) == "worked") = true by decide +kernel]
  rw [e]
  exact ex_some
end
section
variable {cs : Cells} {Q : D → Cells → Prop} {E : Exn → Cells → Prop}
theorem init_wp {ds : List D} {wk : Bool} (hd : ∀ d ∈ ds, datD d = true) (hl : ds.length < 64) (h : match ds.find? (fun d => !isNm d) with | some d => E (badX d) cs | none => Q (valD (srtS (ds.map strD)) (wkd (srtS (ds.map strD)).length wk)) cs) : wp (F_mk_Value_worked ds [.bl wk]) cs Q E := by
  unfold F_mk_Value_worked arrS
  dsimp only
  rw [if_pos ⟨by omega, by omega⟩]
  show wp (runI b_Valuex_initx [.own (.ins "Value" []), .val (.bl wk), .val (.tup ds), .emp]) cs Q E
  rw [w_ini]
  unfold b_Valuex_initx
  rw [s_seq, s_for, w_iSeq, w_var]
  refine ⟨ds, rfl, ?_⟩
  refine for_find (p := fun d => !isNm d) (I := fun l => ∃ s, l = [.own (.ins "Value" []), .val (.bl wk), .val (.tup ds), s]) ⟨_, rfl⟩ ?_ ?_ ?_
  · rintro d hm p l ⟨s, rfl⟩
    walk_at "w"
    rw [e_nm, look_name_wp (hd d hm)]
    have p : isNm d = true := by simpa using p
    rw [if_pos p]
    exact ⟨_, rfl, ⟨_, rfl⟩, rfl⟩
  · rintro d hx l ⟨s, rfl⟩
    have p : (!isNm d) = true := List.find?_some (p := fun d => !isNm d) hx
    have p : isNm d = false := by simpa using p
    rw [hx] at h
    walk_at "w"
    rw [e_nm, look_name_wp (hd d (List.mem_of_find?_eq_some hx)), if_neg (by rw [p]; decide)]
    exact h
  · rintro hx l ⟨s, rfl⟩
    rw [hx] at h
    have hn : ∀ d ∈ ds, isNm d = true := fun d hd => by
      have := List.find?_eq_none.mp hx d hd
      simpa using this
    have es := strs_of_nm hn
    dsimp only at h ⊢
    generalize ds.map strD = ws at es h
    subst es
    rw [List.length_map] at hl
    unfold b_Valuex_initx_1
    walk_at "w"
    rw [x_srtT hl]
    walk_at "w"
    refine ⟨fld_p (by decide), ?_⟩
    rw [putV1]
    unfold b_Valuex_initx_2
    walk_at "w"
    simp only [att_p1]
    walk_at "w"
    generalize hw : srtS ws = vs at h ⊢
    rw [List.length_map]
    unfold wkd at h
    by_cases c1 : 1 < vs.length
    · rw [if_pos (by omega)]
      refine ⟨fld_w (by simp), ?_⟩
      rw [putV2]
      rw [decide_eq_true c1] at h
      exact h
    · rw [if_neg (by omega)]
      rw [decide_eq_false c1] at h
      cases wk with
      | false =>
        rw [if_neg (by decide)]
        refine ⟨fld_w (by simp), ?_⟩
        rw [putV2]
        exact h
      | true =>
        rw [if_pos rfl]
        refine ⟨fld_w (by simp), ?_⟩
        rw [putV2]
        have e : decide ((vs.length : Int) = 1) = decide (vs.length = 1) := decide_eq_decide.mpr (by omega)
        rw [e]
        simpa using h
theorem vof_wp {d : D} {ds : List D} {wk : Bool} (hq : seqOf cs d = some ds) (hd : ∀ d ∈ ds, datD d = true) (hl : ds.length < 64) (h : match ds.find? (fun d => !isNm d) with | some d => E (badX d) cs | none => Q (valD (srtS (ds.map strD)) (wkd (srtS (ds.map strD)).length wk)) cs) : wp (F_Value_of [d, .bl wk] []) cs Q E := by
  show wp (runB b_Value_of [.val d, .val (.bl wk)]) cs Q E
  unfold b_Value_of
  walk_at "w"
  refine ⟨ds, hq, ?_⟩
  try walk_at "w"
  refine ⟨rfl, init_wp hd hl ?_⟩
  cases q : ds.find? (fun d => !isNm d) with
  | some d => rw [q] at h; exact h
  | none => rw [q] at h; exact h
theorem vof_wp1 {d : D} {ds : List D} (hq : seqOf cs d = some ds) (hd : ∀ d ∈ ds, datD d = true) (hl : ds.length < 64) (h : match ds.find? (fun d => !isNm d) with | some d => E (badX d) cs | none => Q (valD (srtS (ds.map strD)) (wkd (srtS (ds.map strD)).length false)) cs) : wp (F_Value_of [d] []) cs Q E := by
  show wp (runB b_Value_of [.val d, .val (.bl false)]) cs Q E
  exact vof_wp (wk := false) hq hd hl h
end
theorem asN_wp {cs : Cells} {n : Int} {Q : D → Cells → Prop} {E : Exn → Cells → Prop} (h0 : 0 ≤ n) (h1 : n < 1000000000) : wp (asN (.int n)) cs Q E ↔ Q (.int n) cs := by
  have e : asN (.int n) = rt (.int n) := by
    simp only [asN]
    exact if_pos ⟨h0, h1⟩
  rw [e, wp_rt]
theorem lenLt {n : Nat} (hl : n < 64) : (n : Int) < 1000000000 := by omega
theorem lenN {m m2 : EM D} {cs : Cells} {n : Nat} {Q : D → Cells → Prop} {E : Exn → Cells → Prop} (e : m2 cs = bd (nox m) asN cs) (k : m cs = .ok (.int n) cs) (hl : n < 64) : wp m2 cs Q E ↔ Q (.int n) cs := by
  have e3 : wp m2 cs Q E ↔ wp (bd (nox m) asN) cs Q E := by
    unfold wp
    rw [e]
  rw [e3, wp_bd, w_nox, wp_eq k]
  exact asN_wp (Int.natCast_nonneg _) (lenLt hl)
theorem t_one {Fe : List D → List D → EM D} : EqT.at_ [(("Value" : Str), Fe)] "Value" = some Fe := by
  unfold EqT.at_
  rw [List.find?_cons_of_pos (by simp)]
  rfl
theorem ins_v {cs : Cells} {ws : List Str} {wk : Bool} : insOf cs (valD ws wk) = some (("Value" : Str), [(("people" : Str), D.tup (ws.map D.str)), ("worked", .bl wk)]) := rfl
section
variable {cs : Cells} {ws : List Str} {wk : Bool} {Q : D → Cells → Prop} {E : Exn → Cells → Prop}
theorem pure_wp : wp (propDyn t_pure (valD ws wk)) cs Q E ↔ Q (.bl (decide (ws.length = 1) && !wk)) cs := by
  refine wp_eq ?_
  unfold propDyn
  rw [ins_v]
  dsimp only
  rw [show t_pure = [(("Value" : Str), F_Value_pure)] from rfl, t_one]
  dsimp only
  unfold nox
  have e : F_Value_pure [valD ws wk] [] cs = .ok (.bl (decide (ws.length = 1) && !wk)) cs := by
    apply eq_wp
    show wp (runB b_Value_pure [.val (valD ws wk)]) cs _ _
    unfold b_Value_pure
    walk_at "w"
    simp only [atv_p, atv_w]
    walk_at "w"
    rw [List.length_map]
    by_cases c : ws.length = 1
    · rw [if_pos (show (ws.length : Int) = 1 by omega), decide_eq_true c]
      first | rfl | exact ⟨rfl, rfl⟩ | simp
    · rw [if_neg (show ¬ (ws.length : Int) = 1 by omega), decide_eq_false c]
      first | rfl | exact ⟨rfl, rfl⟩ | simp
  rw [e]
theorem vlen_eq : F_Valuex_lenx [valD ws wk] [] cs = .ok (.int ws.length) cs := by
  apply eq_wp
  show wp (runB b_Valuex_lenx [.val (valD ws wk)]) cs _ _
  unfold b_Valuex_lenx
  walk_at "w"
  simp only [atv_p]
  walk_at "w"
  rw [List.length_map]
theorem vlenDE : lenDyn t_len (valD ws wk) cs = bd (nox (F_Valuex_lenx [valD ws wk] [])) asN cs := by
  unfold lenDyn
  rw [ins_v]
  dsimp only
  rw [show t_len = [(("Value" : Str), F_Valuex_lenx)] from rfl, t_one]
theorem vlen_wp (hl : ws.length < 64) : wp (lenDyn t_len (valD ws wk)) cs Q E ↔ Q (.int ws.length) cs := lenN vlenDE vlen_eq hl
theorem vin_wp {x : D} (hx : datD x = true) : wp (inDyn t_contains false x (valD ws wk)) cs Q E ↔ Q (.bl (isStrD x && decide (strD x ∈ ws))) cs := by
  refine wp_eq ?_
  unfold inDyn
  rw [ins_v]
  dsimp only
  rw [show t_contains = [(("Value" : Str), F_Valuex_containsx)] from rfl, t_one]
  dsimp only
  have e : F_Valuex_containsx [valD ws wk, x] [] cs = .ok (.bl (isStrD x && decide (strD x ∈ ws))) cs := by
    apply eq_wp
    show wp (runB b_Valuex_containsx [.val (valD ws wk), .val x]) cs _ _
    unfold b_Valuex_containsx
    walk_at "w"
    simp only [x_isiS hx, ex_bl, atv_p]
    cases x <;> first | (cases hx; done) | skip
    all_goals simp only [isStrD, Bool.false_eq_true, if_false, if_true, Bool.false_and, Bool.true_and, x_inT]
    all_goals first | rfl | exact ⟨rfl, rfl⟩ | trivial
  unfold negB nox bd
  dsimp only
  rw [e]
  generalize (isStrD x && decide (strD x ∈ ws)) = b
  cases b <;> rfl
theorem vbool_wp : wp (spDyn t_bool asBl (valD ws wk)) cs Q E ↔ Q (.bl (!ws.isEmpty)) cs := by
  refine wp_eq ?_
  unfold spDyn
  rw [ins_v]
  dsimp only
  rw [show t_bool = [(("Value" : Str), F_Valuex_boolx)] from rfl, t_one]
  dsimp only
  have e : F_Valuex_boolx [valD ws wk] [] cs = .ok (.bl (!ws.isEmpty)) cs := by
    apply eq_wp
    show wp (runB b_Valuex_boolx [.val (valD ws wk)]) cs _ _
    unfold b_Valuex_boolx
    walk_at "w"
    simp only [atv_p]
    walk_at "w"
    cases ws <;> first | rfl | exact ⟨rfl, rfl⟩ | trivial
  unfold nox bd
  dsimp only
  rw [e]
  rfl
def txV (ws : List Str) (wk : Bool) : Str := if wk = true then "(" ++ Txt.join " " ws ++ ")" else Txt.join "" ws
theorem one_len : (" " : Str).length ≤ 1 := by decide +kernel
theorem nil_len : ("" : Str).length ≤ 1 := by decide +kernel
theorem op_S : (("" : Str) ++ "(") = "(" := by decide +kernel
theorem op_len : ("(" : Str).length = 1 := by decide +kernel
theorem cl_len : (")" : Str).length = 1 := by decide +kernel
theorem vstr_wp (hw : ∀ x ∈ ws, nmS x = true) (hl : ws.length < 64) : wp (spDyn t_str asTx (valD ws wk)) cs Q E ↔ Q (.str (txV ws wk)) cs := by
  refine wp_eq ?_
  unfold spDyn
  rw [ins_v]
  dsimp only
  rw [show t_str = [(("Value" : Str), F_Valuex_strx)] from rfl, t_one]
  dsimp only
  have e : F_Valuex_strx [valD ws wk] [] cs = .ok (.str (txV ws wk)) cs := by
    apply eq_wp
    show wp (runB b_Valuex_strx [.val (valD ws wk)]) cs _ _
    have f := join_fit one_len hw hl
    have sz : 10000 ≤ sizeLine := by decide
    unfold b_Valuex_strx b_Valuex_strx_1 txV
    walk_at "w"
    simp only [atv_p, atv_w, ex_bl]
    cases wk with
    | false =>
      simp only [Bool.false_eq_true, if_false]
      try walk_at "w"
      try simp only [atv_p]
      rw [x_joinT nil_len hw hl]
    | true =>
      simp only [if_true]
      try walk_at "w"
      simp only [op_S, x_joinT one_len hw hl, ex_some, ex_str, x_fmt]
      refine ⟨?_, ?_, ?_, ?_⟩
      · rw [op_len]; omega
      · rw [str_app_len, op_len]; omega
      · rw [str_app_len, str_app_len, op_len, cl_len]; omega
      · first | rfl | exact ⟨rfl, rfl⟩ | trivial
  unfold nox bd
  dsimp only
  rw [e]
  rfl
end
end F

namespace F
open PySem L2
local macro_rules | `(tactic| walk_at "w") => `(tactic| simp only [w_run, w_var, w_c, w_1, w_2, w_N, w_bV, w_bNot, w_bOr, w_bAnd, w_xOr, w_xAnd, w_xNot, w_xIf, w_aNil, w_aCons, w_aStar, w_tup, w_lst, w_tupS, w_lstS, w_lstC, w_listC, w_oNone, w_oSome, w_sl, w_join, w_call, w_callS, w_chk, w_at, w_lenO, w_chain, w_tru, w_inO, w_xf, w_isX, w_eq, w_lc, w_iSeq, w_iEnu, w_iStr, w_iRng, w_yes, w_notT, w_binI, w_lenI, w_iEnuT, w_inI, w_prop, w_strI, w_boolI, w_js0, w_js, w_addC,
  s_seq, s_nx, s_set, s_drop, s_ret, s_retN, s_if, s_asg, s_par2, s_par3, s_raise, s_ownC, s_ownL, s_mutO, s_own, s_addO, s_fldO, s_for, s_setI, s_turn,
  ex_some, ex_if, ex_none, ex_bl, ex_int, ex_str, x_addI, x_addS, x_addT, x_addL, x_sub, x_mul, x_mod, x_div, x_pow, x_lt, x_le, x_gt, x_ge, x_neg, x_int, x_abs, x_min, x_max, x_lenS, x_lenL, x_lenW, x_lenT, x_eqS, x_neS, x_eqI, x_neI, x_isN, x_notN, x_ixL, x_ixW, x_ixT, x_ixS, x_tupL, x_tupT, x_frzL, x_frzT, x_frzW, x_enuL, x_enuT, x_seqL, x_seqT, x_gN, x_g2, x_listT, x_truL, x_slT, x_lenT, x_slL, x_fmt, x_boolT, x_eqBl, x_neBl, isi_bB, isi_t, x_inL, x_inT,
  List.getElem?_cons_zero, List.getElem?_cons_succ, List.set_cons_zero, List.set_cons_succ, List.length_nil, wipeL, decide_eq_true_eq, Bool.not_eq_true', decide_eq_false_iff_not, true_and, and_true])
theorem word1_wp {cs : Cells} {b n m : Nat} {Q : D → Cells → Prop} {E : Exn → Cells → Prop} (hm : 0 < m ∧ m ≤ 8) (hb : Bag cs b (n + 9)) (k : ∀ x cs', nmS x = true → Bag cs' b n → Kp b cs cs' → Q (.str x) cs') : wp (F_law_one_word [.cel b, .int (m : Int)] []) cs Q E := by
  show wp (runB b_law_one_word [.val (.cel b), .val (.int (m : Int)), .emp, .emp, .emp]) cs Q E
  unfold b_law_one_word b_law_one_word_1
  rw [e_draw]
  walk_at "w"
  refine draw_wp (n := n + 8) hb (by omega) (by omega) fun r cs1 r0 r1 hb1 kp => ?_
  obtain ⟨t, rfl⟩ : ∃ t : Nat, r = (t : Int) := ⟨r.toNat, by omega⟩
  walk_at "w"
  have e1 : (1 + (t : Int)).toNat = t + 1 := by omega
  rw [e1]
  refine ⟨by omega, by simp; omega, ?_⟩
  refine comp_bag (N := n + 8) (k := 1) (fun _ y => ∃ c, ltr c ∧ y = .str (tx [c])) hb1 (by omega) ?_ ?_
  · intro i cs2 hi hb2
    refine ⟨_, rfl, ?_⟩
    walk_at "w"
    refine draw_wp (n := n + 8 - i * 1 - 1) (hb2.mono (by omega)) (by decide) (by decide) fun r cs3 r0 r1 hb3 kp3 => ?_
    obtain ⟨t2, rfl⟩ : ∃ t2 : Nat, r = (t2 : Int) := ⟨r.toNat, by omega⟩
    rw [x_ixS, atI_nat (letters_at (i := t2) (by omega))]
    walk_at "w"
    exact ⟨⟨97 + t2, ⟨by omega, by omega⟩, rfl⟩, hb3, kp3⟩
  · intro ys cs2 ly hy hb2 kp2
    obtain ⟨ts, rfl, ht⟩ := list_of (p := ltr) (f := fun c => D.str (tx [c])) (xs := ys) fun v hv => by
      obtain ⟨i, hi⟩ := List.mem_iff_getElem?.mp hv
      exact hy i v hi
    rw [List.length_map] at ly
    have e : joinD "" (.lst (ts.map fun c => D.str (tx [c]))) cs2 = some (.str (tx ts)) := by
      show (match strsOf (ts.map fun c => D.str (tx [c])) with
        | some zs => if (decide ((zs.map fun (z : Str) => z.length).sum + zs.length * ("" : Str).length ≤ 1000000) && fitB (Txt.join "" zs).length) = true then some (D.str (Txt.join "" zs)) else none
        | none => none) = _
      have e1 : (ts.map fun c => D.str (tx [c])) = (ts.map fun c => tx [c]).map D.str := by rw [List.map_map]; rfl
      rw [e1, strsOf_map]
      dsimp only
      rw [join_one, sum_one, if_pos]
      rw [Bool.and_eq_true]
      refine ⟨decide_eq_true ?_, decide_eq_true ?_⟩
      · have : ("" : Str).length = 0 := by decide +kernel
        rw [this]
        omega
      · rw [tx_len]; omega
    rw [e]
    unfold b_law_one_word_2
    walk_at "w"
    have hn : nmS (tx ts) = true := nmS_of (by rw [tx_len]; omega) (by rw [tx_len]; omega) fun c hc => ht c (by simpa using hc)
    by_cases u : tx ts = "up"
    · simp only [u, not_true, if_false]
      exact k _ _ (by decide +kernel) (hb2.mono (by omega)) (kp.trans kp2)
    · simp only [u, not_false_iff, if_true]
      exact k _ _ hn (hb2.mono (by omega)) (kp.trans kp2)
theorem people_wp {cs : Cells} {b n : Nat} {Q : D → Cells → Prop} {E : Exn → Cells → Prop} (hb : Bag cs b (n + 60)) (k : ∀ (ps ws : List Str) cs', ps.length = 3 → (∀ x ∈ ps, nmS x = true) → (∀ x ∈ ws, x ∈ ps) → ws.length ≤ 20 → Bag cs' b n → Kp b cs cs' → Q (.tup [.lst (ps.map D.str), .lst (ws.map D.str)]) cs') : wp (F_law_people_drawn [.cel b] []) cs Q E := by
  show wp (runB b_law_people_drawn [.val (.cel b), .emp, .emp]) cs Q E
  unfold b_law_people_drawn b_law_people_drawn_1
  walk_at "w"
  refine word1_wp (m := 8) (n := n + 51) (by decide) hb fun x1 cs1 h1 hb1 kp1 => ?_
  refine word1_wp (m := 3) (n := n + 42) (by decide) hb1 fun x2 cs2 h2 hb2 kp2 => ?_
  refine word1_wp (m := 8) (n := n + 33) (by decide) hb2 fun x3 cs3 h3 hb3 kp3 => ?_
  try walk_at "w"
  rw [e_of]
  refine of_wp2 (n := n + 32) hb3 (by simp) (by simp) fun i x cs4 hx hb4 kp4 => ?_
  obtain ⟨m, rfl, hm⟩ := num_of (xs := [0, 1, 1, 2, 3, 6, 20]) (m := 20) (by decide) hx
  walk_at "w"
  refine ⟨by omega, by simp; omega, ?_⟩
  rw [Int.toNat_natCast]
  refine comp_bag (N := n + 32) (k := 1) (fun _ y => ∃ c, c ∈ [x1, x2, x3] ∧ y = .str c) hb4 (by omega) ?_ ?_
  · intro i cs5 hi hb5
    refine ⟨_, rfl, ?_⟩
    walk_at "w"
    refine of_wp2 (n := n + 32 - i * 1 - 1) (hb5.mono (by omega)) (by simp) (by simp) fun j y cs6 hy hb6 kp6 => ⟨?_, hb6, kp6⟩
    have hm := List.mem_of_getElem? hy
    rw [show [D.str x1, D.str x2, D.str x3] = [x1, x2, x3].map D.str from rfl] at hm
    obtain ⟨c, hc, rfl⟩ := List.mem_map.mp hm
    exact ⟨c, hc, rfl⟩
  · intro ys cs5 ly hy hb5 kp5
    obtain ⟨ws, rfl, hw⟩ := list_of (p := fun c => c ∈ [x1, x2, x3]) (f := D.str) (xs := ys) fun v hv => by
      obtain ⟨i, hi⟩ := List.mem_iff_getElem?.mp hv
      exact hy i v hi
    rw [List.length_map] at ly
    refine k [x1, x2, x3] ws cs5 rfl ?_ hw (by omega) (hb5.mono (by omega)) ((((kp1.trans kp2).trans kp3).trans kp4).trans kp5)
    intro x hx
    simp only [List.mem_cons, List.not_mem_nil, or_false] at hx
    rcases hx with rfl | rfl | rfl
    · exact h1
    · exact h2
    · exact h3
end F

namespace F
open PySem L2
local macro_rules | `(tactic| walk_at "w") => `(tactic| simp only [w_run, w_var, w_c, w_1, w_2, w_N, w_bV, w_bNot, w_bOr, w_bAnd, w_xOr, w_xAnd, w_xNot, w_xIf, w_aNil, w_aCons, w_aStar, w_tup, w_lst, w_tupS, w_lstS, w_lstC, w_listC, w_oNone, w_oSome, w_sl, w_join, w_call, w_callS, w_chk, w_at, w_lenO, w_chain, w_tru, w_inO, w_xf, w_isX, w_eq, w_lc, w_iSeq, w_iEnu, w_iStr, w_iRng, w_yes, w_notT, w_binI, w_lenI, w_iEnuT, w_inI, w_prop, w_strI, w_boolI, w_js0, w_js, w_addC,
  s_seq, s_nx, s_set, s_drop, s_ret, s_retN, s_if, s_asg, s_par2, s_par3, s_raise, s_ownC, s_ownL, s_mutO, s_own, s_addO, s_fldO, s_for, s_setI, s_turn,
  ex_some, ex_if, ex_none, ex_bl, ex_int, ex_str, x_addI, x_addS, x_addT, x_addL, x_sub, x_mul, x_mod, x_div, x_pow, x_lt, x_le, x_gt, x_ge, x_neg, x_int, x_abs, x_min, x_max, x_lenS, x_lenL, x_lenW, x_lenT, x_eqS, x_neS, x_eqI, x_neI, x_isN, x_notN, x_ixL, x_ixW, x_ixT, x_ixS, x_tupL, x_tupT, x_frzL, x_frzT, x_frzW, x_enuL, x_enuT, x_seqL, x_seqT, x_gN, x_g2, x_listT, x_truL, x_slT, x_lenT, x_slL, x_fmt, x_boolT, x_eqBl, x_neBl, isi_bB, isi_t, x_inL, x_inT,
  List.getElem?_cons_zero, List.getElem?_cons_succ, List.set_cons_zero, List.set_cons_succ, List.length_nil, wipeL, decide_eq_true_eq, Bool.not_eq_true', decide_eq_false_iff_not, true_and, and_true])
theorem isX_v {cs : Cells} {c : Str} {t : Tag} {k : Bool} {Q : D → Prop} (h : tb.is (.c c) t = some k) : (∃ r, (tb.is (.c c) t).map D.bl = some r ∧ Q r) ↔ Q (.bl k) := by
  rw [h]
  exact ex_some
theorem ok_rt {x : D} (hx : gdD x = true) : ∀ d ∈ [D.str (rp x), D.bl true], okD d = true := by
  intro d hd
  simp only [List.mem_cons, List.not_mem_nil, or_false] at hd
  rcases hd with rfl | rfl
  · exact okD_str (repr_ok (cs := []) (gdD.dat hx) (gdD.rep hx)).2
  · decide +kernel
theorem ref4_wp {cs : Cells} {b c1 : Nat} {x : D} {zs : List D} {s1 s4 : Sl} {l : Loc} (x1 : isExn s1 = false) (x4 : isExn s4 = false) (hx : gdD x = true) (hf : zs.find? (fun d => !isNm d) = some x) (hd : ∀ d ∈ zs, datD d = true) (hl : zs.length < 64) (hb : Bag cs b 5) (hc : cs[c1]? = some (.lst zs)) (ne : c1 ≠ b) (el : l = [.val (.cel b), s1, .val x, .val (.cel c1), s4, .val (.tup []), .emp]) :
    wpS (b_law_refused_4 l cs) fun fl _ => fl = .ret (.bl true) := by
  subst el
  unfold b_law_refused_4
  rw [s_seq, s_try]
  walk_at "w"
  rw [e_draw]
  refine draw_wp (n := 4) hb (by decide) (by decide) fun r cs1 r0 r1 hb1 kp1 => ?_
  have hc1 : celL cs1 c1 = some zs := celL_of (by rw [kp1.2 c1 ne]; exact hc)
  walk_at "w"
  refine vof_wp (ds := zs) hc1 hd hl ?_
  rw [hf]
  show wpS (hand te (badX x) _ _ _) _
  rw [s_hit (show te.m "BadName" (.c "BadName") = some true by decide +kernel) (by simp)]
  walk_at "w"
  have ex : ∀ d : D, ([.val (.cel b), s1, .val x, .val (.cel c1), s4, .val d, .emp] : List Sl).any isExn = false := by
    intro d
    simp only [List.any_cons, List.any_nil, x1, x4, show ∀ d, isExn (.val d) = false from fun _ => rfl, show isExn .emp = false from rfl, Bool.or_false]
  refine ⟨show (decide (("BadName" : Str) = "BadName") && te.fld "BadName" "name") = true by decide +kernel, x, by rfl, ?_⟩
  rw [x_rep hx]
  refine ⟨show te.has "BadName" = true by decide +kernel, ?_⟩
  rw [isX_v (show tb.is (.c (badX x).c) (.b "ValueError") = some true from show tb.is (.c "BadName") (.b "ValueError") = some true by decide +kernel) (cs := [])]
  refine ⟨ex _, ?_⟩
  unfold b_law_refused_5
  walk_at "w"
  rw [x_rep hx]
  try walk_at "w"
  rw [x_eqT (ok_rt hx) (ok_rt hx), dqA_self (ok_rt hx)]
theorem ref2_wp {cs : Cells} {b c1 : Nat} {x : D} {ws : List Str} {zs : List D} {l : Loc} (hx : gdD x = true) (hf : zs.find? (fun d => !isNm d) = some x) (hd : ∀ d ∈ zs, datD d = true) (hl : zs.length < 40) (hb : Bag cs b 7) (hc : cs[c1]? = some (.lst zs)) (ne : c1 ≠ b) (el : l = [.val (.cel b), .val (.lst (ws.map D.str)), .val x, .val (.cel c1), .emp, .emp, .emp]) :
    wpS (b_law_refused_2 l cs) fun fl _ => fl = .ret (.bl true) := by
  subst el
  unfold b_law_refused_2
  walk_at "w"
  rw [e_draw]
  refine draw_wp (n := 6) hb (by decide) (by decide) fun r cs1 r0 r1 hb1 kp1 => ?_
  obtain ⟨k, rfl⟩ : ∃ k : Nat, r = (k : Int) := ⟨r.toNat, by omega⟩
  have hc1 : cs1[c1]? = some (.lst zs) := by rw [kp1.2 c1 ne]; exact hc
  walk_at "w"
  rw [cut_take]
  refine for_inv (fun i l cs' => ∃ s zs', l = [.val (.cel b), .val (.lst (ws.map D.str)), .val x, .val (.cel c1), s, .emp, .emp] ∧ isExn s = false ∧ cs'[c1]? = some (.lst (zs ++ zs')) ∧ (∀ d ∈ zs', datD d = true) ∧ zs'.length = i ∧ Bag cs' b 5) ⟨_, [], rfl, rfl, by simpa using hc1, by simp, rfl, hb1.mono (by decide)⟩ ?_ ?_
  · rintro i d l cs2 hi ⟨s, zs', rfl, hs, h1, h2, h3, h4⟩
    have hm := List.mem_of_mem_take (List.mem_of_getElem? hi)
    have hik := (List.getElem?_eq_some_iff.mp hi).1
    rw [List.length_take] at hik
    obtain ⟨w, _, rfl⟩ := List.mem_map.mp hm
    walk_at "w"
    rw [mut_wp]
    walk_at "w"
    refine ⟨(), ?_, ?_⟩
    · show (celL cs2 c1).map _ = _
      rw [celL_of h1]
      rfl
    · rw [upd_wp (xs := zs ++ zs') (ys := zs ++ zs' ++ [.str w]) (celL_of h1) (by
        show (if (zs ++ zs').length < 1000000 then _ else _) = _
        rw [if_pos (by rw [List.length_append]; omega)])]
      have lt : c1 < cs2.length := (List.getElem?_eq_some_iff.mp h1).1
      refine ⟨_, zs' ++ [.str w], rfl, rfl, ?_, ?_, by simp [h3], h4.put ne⟩
      · rw [List.getElem?_set_self lt, List.append_assoc]
      · intro d hd'
        rcases List.mem_append.mp hd' with hd' | hd'
        · exact h2 d hd'
        · simp at hd'
          subst hd'
          rfl
  · rintro l cs2 ⟨s, zs', rfl, hs, h1, h2, h3, h4⟩
    rw [List.length_take] at h3
    unfold b_law_refused_3
    walk_at "w"
    generalize el : ([.val (.cel b), .val (.lst (ws.map D.str)), .val x, .val (.cel c1), s, .val (.tup []), .emp] : Loc) = l
    refine ref4_wp (zs := zs ++ zs') rfl hs hx (by rw [List.find?_append, hf]; rfl) ?_ (by rw [List.length_append]; omega) h4 h1 ne el.symm
    intro d hd'
    rcases List.mem_append.mp hd' with hd' | hd'
    · exact hd d hd'
    · exact h2 d hd'
theorem refused_wp {cs : Cells} {b : Nat} {ws : List Str} (hw : ∀ x ∈ ws, nmS x = true) (hl : ws.length ≤ 20) (hb : Bag cs b 20) : wp (F_law_refused [.cel b, .lst (ws.map D.str)] []) cs (fun d _ => d = .bl true) fun _ _ => False := by
  show wp (runB b_law_refused [.val (.cel b), .val (.lst (ws.map D.str)), .emp, .emp, .emp, .emp, .emp]) cs _ _
  unfold b_law_refused b_law_refused_1
  walk_at "w"
  rw [e_odd]
  refine odd_wp (n := 19) (by decide) hb fun x cs1 hx hb1 kp1 => ?_
  try walk_at "w"
  refine odd_wp (n := 18) (by decide) hb1 fun y cs2 hy hb2 kp2 => ?_
  have e : catC cs2 (.lst (ws.map D.str)) (.lst [x, y]) = some (ws.map D.str ++ [x, y]) := by
    have e : catL cs2 (.lst (ws.map D.str)) (.lst [x, y]) = some (.lst (ws.map D.str ++ [x, y])) := by
      show (if fitB ((ws.map D.str).length + [x, y].length) = true then some (D.lst (ws.map D.str ++ [x, y])) else none) = _
      rw [if_pos]
      exact decide_eq_true (by simp; omega)
    unfold catC
    rw [e]
  refine ⟨_, e, ?_⟩
  have gx := gdD_odd hx
  have hf : (ws.map D.str ++ [x, y]).find? (fun d => !isNm d) = some x := by
    rw [List.find?_append]
    have e1 : (ws.map D.str).find? (fun d => !isNm d) = none := by
      rw [List.find?_eq_none]
      intro d hd
      obtain ⟨w, hm, rfl⟩ := List.mem_map.mp hd
      show ¬ (!nmS w) = true
      rw [hw w hm]
      decide
    rw [e1, Option.none_or]
    rw [List.find?_cons, List.all_eq_true.mp isNm_odds x hx]
  have hd : ∀ d ∈ ws.map D.str ++ [x, y], datD d = true := by
    intro d hd
    rcases List.mem_append.mp hd with hd | hd
    · obtain ⟨w, hm, rfl⟩ := List.mem_map.mp hd
      rfl
    · simp only [List.mem_cons, List.not_mem_nil, or_false] at hd
      rcases hd with rfl | rfl
      · exact gdD.dat gx
      · exact gdD.dat (gdD_odd hy)
  have lz : (ws.map D.str ++ [x, y]).length < 40 := by simp; omega
  have hb3 : Bag (cs2 ++ [C.lst (ws.map D.str ++ [x, y])]) b 18 := hb2.app
  have lt := hb2.lt
  have hc : (cs2 ++ [C.lst (ws.map D.str ++ [x, y])])[cs2.length]? = some (.lst (ws.map D.str ++ [x, y])) := List.getElem?_concat_length
  generalize ws.map D.str ++ [x, y] = zs at *
  generalize cs2 ++ [C.lst zs] = cs3 at hb3 hc
  generalize cs2.length = c1 at lt hc
  generalize el : ([.val (.cel b), .val (.lst (ws.map D.str)), .val x, .val (.cel c1), .emp, .emp, .emp] : Loc) = l
  refine wpS_imp (ref2_wp gx hf hd lz (hb3.mono (by decide)) hc (by omega) el.symm) fun fl cs' e => ?_
  subst e
  rfl
end F

namespace F
open PySem L2
local macro_rules | `(tactic| walk_at "w") => `(tactic| simp only [w_run, w_var, w_c, w_1, w_2, w_N, w_bV, w_bNot, w_bOr, w_bAnd, w_xOr, w_xAnd, w_xNot, w_xIf, w_aNil, w_aCons, w_aStar, w_tup, w_lst, w_tupS, w_lstS, w_lstC, w_listC, w_oNone, w_oSome, w_sl, w_join, w_call, w_callS, w_chk, w_at, w_lenO, w_chain, w_tru, w_inO, w_xf, w_isX, w_eq, w_lc, w_iSeq, w_iEnu, w_iStr, w_iRng, w_yes, w_notT, w_binI, w_lenI, w_iEnuT, w_inI, w_prop, w_strI, w_boolI, w_js0, w_js, w_addC,
  s_seq, s_nx, s_set, s_drop, s_ret, s_retN, s_if, s_asg, s_par2, s_par3, s_raise, s_ownC, s_ownL, s_mutO, s_own, s_addO, s_fldO, s_for, s_setI, s_turn,
  ex_some, ex_if, ex_none, ex_bl, ex_int, ex_str, x_addI, x_addS, x_addT, x_addL, x_sub, x_mul, x_mod, x_div, x_pow, x_lt, x_le, x_gt, x_ge, x_neg, x_int, x_abs, x_min, x_max, x_lenS, x_lenL, x_lenW, x_lenT, x_eqS, x_neS, x_eqI, x_neI, x_isN, x_notN, x_ixL, x_ixW, x_ixT, x_ixS, x_tupL, x_tupT, x_frzL, x_frzT, x_frzW, x_enuL, x_enuT, x_seqL, x_seqT, x_gN, x_g2, x_listT, x_truL, x_slT, x_lenT, x_slL, x_fmt, x_boolT, x_eqBl, x_neBl, isi_bB, isi_t, x_inL, x_inT,
  List.getElem?_cons_zero, List.getElem?_cons_succ, List.set_cons_zero, List.set_cons_succ, List.length_nil, wipeL, decide_eq_true_eq, Bool.not_eq_true', decide_eq_false_iff_not, true_and, and_true])
theorem insS_len {x : Str} : ∀ {xs : List Str}, (insS x xs).length ≤ xs.length + 1
  | [] => by simp [insS]
  | y :: r => by
    unfold insS
    split
    · simp
    · split
      · simp
      · have := insS_len (x := x) (xs := r)
        show (insS x r).length + 1 ≤ r.length + 1 + 1
        omega
theorem srtS_len : ∀ {xs : List Str}, (srtS xs).length ≤ xs.length
  | [] => Nat.le_refl _
  | x :: xs => by
    have h := srtS_len (xs := xs)
    have h2 := insS_len (x := x) (xs := srtS xs)
    show (insS x (srtS xs)).length ≤ xs.length + 1
    omega
theorem vinS_wp {cs : Cells} {ws : List Str} {wk : Bool} {x : Str} {Q : D → Cells → Prop} {E : Exn → Cells → Prop} : wp (inDyn t_contains false (.str x) (valD ws wk)) cs Q E ↔ Q (.bl (decide (x ∈ ws))) cs := vin_wp (x := .str x) rfl
theorem truth_eq {cs : Cells} {a c : Bool} : F_law_is_truth [.bl a, .bl c] [] cs = .ok (.bl (decide (a = c))) cs := by
  apply eq_wp
  show wp (runB b_law_is_truth [.val (.bl a), .val (.bl c)]) cs _ _
  unfold b_law_is_truth
  walk_at "w"
  simp only [if_true]
abbrev Fin1 (fl : Fl) : Prop := fl = .ret (.bl true)
section
variable {cs : Cells} {b : Nat} {ps vs : List Str} {wk : Bool} {s2 s5 : Sl} {l : Loc}
theorem r12_wp {s9 : Sl} {x : D} {y : D} (hv : ∀ x ∈ vs, nmS x = true) (hl : vs.length < 64) (el : l = [.val (.cel b), .val (.lst (ps.map D.str)), s2, .val (.lst (vs.map D.str)), .val x, s5, .val (valD vs wk), .val (.bl wk), .val y, s9]) : wpS (b_law_right_12 l cs) fun fl _ => Fin1 fl := by
  subst el
  have hok := ok_strs hv
  unfold b_law_right_12
  walk_at "w"
  simp only [vbool_wp, ne_nilL hv, x_eqBl, atv_p, x_eqT hok hok, dqA_self hok, ex_bl]
  cases vs <;> simp
theorem r11_wp {x : D} (hv : ∀ x ∈ vs, nmS x = true) (hl : vs.length < 64) (hp : ps.length = 3) (hb : Bag cs b 5) (el : l = [.val (.cel b), .val (.lst (ps.map D.str)), s2, .val (.lst (vs.map D.str)), .val x, s5, .val (valD vs wk), .val (.bl wk), .val (.str (txV vs wk)), .emp]) : wpS (b_law_right_11 l cs) fun fl _ => Fin1 fl := by
  subst el
  unfold b_law_right_11
  walk_at "w"
  rw [e_odd]
  refine odd_wp (n := 4) (by decide) hb fun o1 cs1 h1 hb1 kp1 => ?_
  try walk_at "w"
  refine odd_wp (n := 3) (by decide) hb1 fun o2 cs2 h2 hb2 kp2 => ?_
  try walk_at "w"
  refine ⟨by rw [List.length_map, hp]; exact decide_eq_true (by simp), ?_⟩
  have hd : ∀ d ∈ ps.map D.str ++ [o1, o2, .str (txV vs wk), .lst (vs.map D.str)], datD d = true := by
    intro d hd
    rcases List.mem_append.mp hd with hd | hd
    · obtain ⟨w, hm, rfl⟩ := List.mem_map.mp hd
      rfl
    · simp only [List.mem_cons, List.not_mem_nil, or_false] at hd
      rcases hd with rfl | rfl | rfl | rfl
      · exact gdD.dat (gdD_odd h1)
      · exact gdD.dat (gdD_odd h2)
      · rfl
      · rfl
  refine for_inv (fun i l cs' => ∃ s, l = [.val (.cel b), .val (.lst (ps.map D.str)), s2, .val (.lst (vs.map D.str)), .val x, s5, .val (valD vs wk), .val (.bl wk), .val (.str (txV vs wk)), s]) ⟨_, rfl⟩ ?_ ?_
  · rintro i d l cs3 hi ⟨s, rfl⟩
    have hdd := hd d (List.mem_of_getElem? hi)
    walk_at "w"
    cases d with
    | str w =>
      rw [vinS_wp]
      simp only [x_isiS hdd, ex_bl, isStrD, if_true, x_inL, x_neBl, eq_self, decide_true, Bool.not_true, Bool.false_eq_true, if_false]
      exact ⟨_, rfl⟩
    | _ =>
      first
      | (cases hdd; done)
      | (rw [vin_wp hdd]
         simp only [x_isiS hdd, ex_bl, isStrD, Bool.false_and, x_neBl, eq_self, decide_true, Bool.not_true, Bool.false_eq_true, if_false]
         exact ⟨_, rfl⟩)
  · rintro l cs3 ⟨s, rfl⟩
    generalize el : ([.val (.cel b), .val (.lst (ps.map D.str)), s2, .val (.lst (vs.map D.str)), .val x, s5, .val (valD vs wk), .val (.bl wk), .val (.str (txV vs wk)), s] : Loc) = l
    exact r12_wp hv hl el.symm
theorem r9_wp {x : D} (hv : ∀ x ∈ vs, nmS x = true) (hl : vs.length < 64) (hp : ps.length = 3) (hb : Bag cs b 5) (el : l = [.val (.cel b), .val (.lst (ps.map D.str)), s2, .val (.lst (vs.map D.str)), .val x, s5, .val (valD vs wk), .val (.bl wk), .val (.str (txV vs wk)), .emp]) : wpS (b_law_right_9 l cs) fun fl _ => Fin1 fl := by
  subst el
  have hok := ok_strs hv
  unfold b_law_right_9 b_law_right_10
  walk_at "w"
  simp only [atv_p, atv_w, isi_t, ex_bl, x_tupL, ne_t hok, wp_eq truth_eq, pure_wp, vstr_wp hv hl, vlen_wp hl, decide_true, Bool.not_true, Bool.false_eq_true, if_false]
  try walk_at "w"
  generalize el : ([.val (.cel b), .val (.lst (ps.map D.str)), s2, .val (.lst (vs.map D.str)), .val x, s5, .val (valD vs wk), .val (.bl wk), .val (.str (txV vs wk)), .emp] : Loc) = l
  rw [List.length_map]
  have fin := r11_wp (cs := cs) (s2 := s2) (s5 := s5) hv hl hp hb el.symm
  by_cases c : vs.length = 1
  · rw [if_pos (show (vs.length : Int) = 1 by omega)]
    simp only [wp_eq truth_eq, ex_bl, decide_eq_true c, Bool.true_and, decide_true, Bool.not_true, Bool.false_eq_true, if_false]
    try walk_at "w"
    try simp only [vstr_wp hv hl, vlen_wp hl, x_neS, x_neI, decide_true, Bool.not_true, Bool.false_eq_true, if_false, ex_bl]
    try simp only [not_true, if_false]
    exact fin
  · rw [if_neg (show ¬ (vs.length : Int) = 1 by omega)]
    simp only [wp_eq truth_eq, ex_bl, decide_eq_false c, Bool.false_and, decide_true, Bool.not_true, Bool.false_eq_true, if_false]
    try walk_at "w"
    try simp only [vstr_wp hv hl, vlen_wp hl, x_neS, x_neI, decide_true, Bool.not_true, Bool.false_eq_true, if_false, ex_bl]
    try simp only [not_true, if_false]
    exact fin
end

section
variable {cs : Cells} {b : Nat} {ps vs ws : List Str} {wk : Bool} {s2 s5 : Sl} {l : Loc}
theorem due_eq (vs : List Str) (wk : Bool) : (decide (1 < vs.length) || (wk && !decide (vs = []))) = wkd vs.length wk := by
  unfold wkd
  rcases vs with _ | ⟨a, _ | ⟨c, r⟩⟩
  · cases wk <;> rfl
  · cases wk <;> rfl
  · have : 1 < (a :: c :: r).length := by simp
    rw [decide_eq_true this]
    rfl
theorem r7_wp {v : Bool} (ev : v = wkd vs.length wk) (hv : ∀ x ∈ vs, nmS x = true) (hl : vs.length < 64) (hp : ps.length = 3) (hb : Bag cs b 5) (el : l = [.val (.cel b), .val (.lst (ps.map D.str)), s2, .val (.lst (vs.map D.str)), .val (.bl wk), s5, .val (valD vs v), .emp, .emp, .emp]) : wpS (b_law_right_7 l cs) fun fl _ => Fin1 fl := by
  subst el
  have f1 := join_fit one_len hv hl
  have step8 : ∀ {l : Loc}, l = [.val (.cel b), .val (.lst (ps.map D.str)), s2, .val (.lst (vs.map D.str)), .val (.bl wk), s5, .val (valD vs v), .val (.bl v), .emp, .emp] → wpS (b_law_right_8 l cs) fun fl _ => Fin1 fl := by
    intro l el
    subst el
    unfold b_law_right_8
    walk_at "w"
    have fin : ∀ {l : Loc}, l = [.val (.cel b), .val (.lst (ps.map D.str)), s2, .val (.lst (vs.map D.str)), .val (.bl wk), s5, .val (valD vs v), .val (.bl v), .val (.str (txV vs v)), .emp] → wpS (b_law_right_9 l cs) fun fl _ => Fin1 fl := fun {l} el => r9_wp hv hl hp hb el
    cases v with
    | true =>
      rw [if_pos rfl, x_joinL one_len hv hl]
      walk_at "w"
      refine ⟨?_, ?_, ?_⟩
      · rw [op_len]; exact decide_eq_true (by omega)
      · rw [str_app_len, op_len, cl_len]; exact decide_eq_true (by omega)
      · generalize el : ([.val (.cel b), .val (.lst (ps.map D.str)), s2, .val (.lst (vs.map D.str)), .val (.bl wk), s5, .val (valD vs true), .val (.bl true), .val (.str ("(" ++ Txt.join " " vs ++ ")")), .emp] : Loc) = l
        exact fin el.symm
    | false =>
      rw [if_neg (by decide), x_joinL nil_len hv hl]
      generalize el : ([.val (.cel b), .val (.lst (ps.map D.str)), s2, .val (.lst (vs.map D.str)), .val (.bl wk), s5, .val (valD vs false), .val (.bl false), .val (.str (Txt.join "" vs)), .emp] : Loc) = l
      exact fin el.symm
  have e := due_eq vs wk
  rw [← ev] at e
  unfold b_law_right_7
  walk_at "w"
  rw [List.length_map]
  simp only [ne_nilL hv]
  by_cases c1 : 1 < vs.length
  · rw [if_pos (by omega)]
    rw [decide_eq_true c1, Bool.true_or] at e
    generalize el : ([.val (.cel b), .val (.lst (ps.map D.str)), s2, .val (.lst (vs.map D.str)), .val (.bl wk), s5, .val (valD vs v), .val (.bl true), .emp, .emp] : Loc) = l
    rw [e] at el
    exact step8 el.symm
  · rw [if_neg (by omega)]
    rw [decide_eq_false c1, Bool.false_or] at e
    have fin : ∀ {u : Bool} {l : Loc}, u = v → l = [.val (.cel b), .val (.lst (ps.map D.str)), s2, .val (.lst (vs.map D.str)), .val (.bl wk), s5, .val (valD vs v), .val (.bl u), .emp, .emp] → wpS (b_law_right_8 l cs) fun fl _ => Fin1 fl := fun {u l} eu el => step8 (by rw [el, eu])
    cases hwk : wk with
    | false =>
      rw [if_neg (by decide)]
      rw [hwk] at e fin
      generalize el : ([.val (.cel b), .val (.lst (ps.map D.str)), s2, .val (.lst (vs.map D.str)), .val (.bl false), s5, .val (valD vs v), .val (.bl false), .emp, .emp] : Loc) = l
      exact fin e el.symm
    | true =>
      rw [if_pos rfl]
      rw [hwk, Bool.true_and] at e
      rw [hwk] at fin
      generalize el : ([.val (.cel b), .val (.lst (ps.map D.str)), s2, .val (.lst (vs.map D.str)), .val (.bl true), s5, .val (valD vs v), .val (.bl (!decide (vs = []))), .emp, .emp] : Loc) = l
      exact fin e el.symm
theorem r4_wp (hw : ∀ x ∈ ws, nmS x = true) (lw : ws.length ≤ 20) (hp : ps.length = 3) (hb : Bag cs b 20) (el : l = [.val (.cel b), .val (.lst (ps.map D.str)), .val (.lst (ws.map D.str)), .val (.lst ((srtS ws).map D.str)), .val (.bl wk), .emp, .emp, .emp, .emp, .emp]) : wpS (b_law_right_4 l cs) fun fl _ => Fin1 fl := by
  subst el
  have hv : ∀ x ∈ srtS ws, nmS x = true := fun x hx => hw x (srtS_mem.mp hx)
  have hl : (srtS ws).length < 64 := by
    have := srtS_len (xs := ws)
    omega
  have hd : ∀ d ∈ ws.map D.str, datD d = true := fun d hd => by
    obtain ⟨w, _, rfl⟩ := List.mem_map.mp hd
    rfl
  have hf : (ws.map D.str).find? (fun d => !isNm d) = none := by
    rw [List.find?_eq_none]
    intro d hd
    obtain ⟨w, hm, rfl⟩ := List.mem_map.mp hd
    show ¬ (!nmS w) = true
    rw [hw w hm]
    decide
  have hm : (ws.map D.str).map strD = ws := by
    rw [List.map_map, show (strD ∘ D.str) = id from rfl, List.map_id]
  have lt := hb.lt
  unfold b_law_right_4
  walk_at "w"
  have hb1 : Bag (cs ++ [C.lst (ws.map D.str)]) b 20 := hb.app
  have hc1 : (cs ++ [C.lst (ws.map D.str)])[cs.length]? = some (.lst (ws.map D.str)) := List.getElem?_concat_length
  generalize cs ++ [C.lst (ws.map D.str)] = cs1 at hb1 hc1 ⊢
  generalize cs.length = c1 at lt hc1 ⊢
  have ne : c1 ≠ b := by omega
  have step6 : ∀ {cs : Cells} {v : Bool} {l : Loc}, v = wkd (srtS ws).length wk → Bag cs b 10 → cs[c1]? = some (.lst (ws.map D.str)) → l = [.val (.cel b), .val (.lst (ps.map D.str)), .val (.lst (ws.map D.str)), .val (.lst ((srtS ws).map D.str)), .val (.bl wk), .val (.cel c1), .val (valD (srtS ws) v), .emp, .emp, .emp] → wpS (b_law_right_6 l cs) fun fl _ => Fin1 fl := by
    intro cs v l ev hb hc el
    subst el
    unfold b_law_right_6
    rw [s_seq, s_drop, mut_wp]
    walk_at "w"
    refine ⟨(), ?_, ?_⟩
    · show (celL cs c1).map _ = _
      rw [celL_of hc]
      rfl
    · rw [upd_wp (xs := ws.map D.str) (ys := ws.map D.str ++ [.str "later"]) (celL_of hc) (by
        show (if (ws.map D.str).length < 1000000 then _ else _) = _
        rw [if_pos (by rw [List.length_map]; omega)])]
      have hb2 : Bag (cs.set c1 (.lst (ws.map D.str ++ [.str "later"]))) b 10 := hb.put ne
      generalize cs.set c1 (.lst (ws.map D.str ++ [.str "later"])) = cs2 at hb2 ⊢
      generalize el : ([.val (.cel b), .val (.lst (ps.map D.str)), .val (.lst (ws.map D.str)), .val (.lst ((srtS ws).map D.str)), .val (.bl wk), .val (.cel c1), .val (valD (srtS ws) v), .emp, .emp, .emp] : Loc) = l
      exact r7_wp ev hv hl hp (hb2.mono (by decide)) el.symm
  have mk1 : ∀ {cs : Cells} {d : D} {w : Bool} {l : Loc}, w = wk → Bag cs b 10 → cs[c1]? = some (.lst (ws.map D.str)) → seqOf cs d = some (ws.map D.str) → wp (F_Value_of [d, .bl w] []) cs (fun d cs' => wpS (b_law_right_6 [.val (.cel b), .val (.lst (ps.map D.str)), .val (.lst (ws.map D.str)), .val (.lst ((srtS ws).map D.str)), .val (.bl wk), .val (.cel c1), .val d, .emp, .emp, .emp] cs') fun fl _ => Fin1 fl) fun _ _ => False := by
    intro cs d w l ew hb hc hq
    subst ew
    refine vof_wp hq hd (by rw [List.length_map]; omega) ?_
    rw [hf]
    dsimp only
    rw [hm]
    generalize el : ([.val (.cel b), .val (.lst (ps.map D.str)), .val (.lst (ws.map D.str)), .val (.lst ((srtS ws).map D.str)), .val (.bl w), .val (.cel c1), .val (valD (srtS ws) (wkd (srtS ws).length w)), .emp, .emp, .emp] : Loc) = l
    exact step6 rfl hb hc el.symm
  unfold b_law_right_5
  walk_at "w"
  have hc0 : seqOf cs1 (.cel c1) = some (ws.map D.str) := celL_of hc1
  cases hwk : wk with
  | true =>
    rw [if_pos rfl]
    subst hwk
    exact wp_imp (mk1 (w := true) (l := []) rfl (hb1.mono (by decide)) hc1 hc0) (fun d cs' h => h) fun _ _ h => h.elim
  | false =>
    rw [if_neg (by decide), e_draw]
    subst hwk
    refine draw_wp (n := 19) hb1 (by decide) (by decide) fun r cs2 r0 r1 hb2 kp2 => ?_
    have hc2 : cs2[c1]? = some (.lst (ws.map D.str)) := by rw [kp2.2 c1 ne]; exact hc1
    try walk_at "w"
    by_cases z : r = 0
    · rw [if_pos z]
      exact wp_imp (mk1 (w := false) (l := []) rfl (hb2.mono (by decide)) hc2 (celL_of hc2)) (fun d cs' h => h) fun _ _ h => h.elim
    · rw [if_neg z]
      exact wp_imp (mk1 (d := .tup (ws.map D.str)) (w := false) (l := []) rfl (hb2.mono (by decide)) hc2 rfl) (fun d cs' h => h) fun _ _ h => h.elim
end
theorem right_wp {cs : Cells} {b : Nat} (hb : Bag cs b 200) : wp (F_law_right [.cel b] []) cs (fun d _ => d = .bl true) fun _ _ => False := by
  show wp (runB b_law_right [.val (.cel b), .emp, .emp, .emp, .emp, .emp, .emp, .emp, .emp, .emp]) cs _ _
  unfold b_law_right b_law_right_1
  walk_at "w"
  refine people_wp (n := 140) hb fun ps ws cs1 lp hp hw lw hb1 kp1 => ?_
  have hn : ∀ x ∈ ws, nmS x = true := fun x hx => hp x (hw x hx)
  walk_at "w"
  rw [e_draw]
  refine draw_wp (n := 139) hb1 (by decide) (by decide) fun r cs2 r0 r1 hb2 kp2 => ?_
  walk_at "w"
  by_cases z : r = 0
  · rw [if_pos z]
    exact refused_wp hn lw (hb2.mono (by decide))
  · rw [if_neg z]
    unfold b_law_right_2 b_law_right_3
    walk_at "w"
    rw [x_srtL (by omega), e_draw]
    refine draw_wp (n := 138) hb2 (by decide) (by decide) fun q cs3 q0 q1 hb3 kp3 => ?_
    walk_at "w"
    generalize el : ([.val (.cel b), .val (.lst (ps.map D.str)), .val (.lst (ws.map D.str)), .val (.lst ((srtS ws).map D.str)), .val (.bl (decide (q = 0))), .emp, .emp, .emp, .emp, .emp] : Loc) = l
    refine wpS_imp (r4_wp hn lw lp (hb3.mono (by decide)) el.symm) fun fl cs' e => ?_
    have e : fl = .ret (.bl true) := e
    subst e
    rfl
theorem law_true (ns : List Int) (hn : ns.length ≤ 63) (cs : Cells) : ∃ cs', F_law [.wls (ns.map D.int)] [] cs = .ok (.bl true) cs' := by
  have h : wp (F_law [.wls (ns.map D.int)] []) cs (fun d _ => d = .bl true) fun _ _ => False := by
    show wp (runB b_law [.val (.wls (ns.map D.int)), .emp]) cs _ _
    unfold b_law b_law_1
    walk_at "w"
    generalize hj : (if (if (((ns.map D.int).length : Nat) : Int) < 8 then (((ns.map D.int).length : Nat) : Int) else 8) > 1 then (if (((ns.map D.int).length : Nat) : Int) < 8 then (((ns.map D.int).length : Nat) : Int) else 8) else 1) = j
    have hj2 : 1 ≤ j ∧ j ≤ 8 := by
      subst hj
      repeat' split
      all_goals omega
    refine ⟨by omega, ?_⟩
    refine for_inv (fun i l cs' => ∃ s, l = [.val (.wls (ns.map D.int)), s]) ⟨_, rfl⟩ ?_ ?_
    · rintro i d l cs1 hi ⟨s, rfl⟩
      have hil : i < j.toNat := by
        have := (List.getElem?_eq_some_iff.mp hi).1
        simpa using this
      rw [List.getElem?_map, List.getElem?_range hil] at hi
      cases hi
      walk_at "w"
      rw [e_bagged]
      refine bagged_wp (by omega) fun cs2 hb2 _ _ => ?_
      refine wp_imp (right_wp (hb2.mono (by decide))) (fun d cs3 e => ?_) fun _ _ h => h.elim
      subst e
      refine ⟨true, rfl, ?_⟩
      simp only [Bool.true_eq_false, reduceCtorEq, if_false]
      exact ⟨_, rfl⟩
    · rintro l cs1 ⟨s, rfl⟩
      walk_at "w"
  obtain ⟨a, cs', e, rfl⟩ := of_wp h
  exact ⟨cs', e⟩
end F

namespace F
open PySem PySem.Spec PyProof.Rows L2 He E
theorem factsF {P : Program} {w : World} {K : PySem.W.Frag} {mg : Str → Option Value} {h : Heap} {fa : Addr} (X : K.In h) (G : h.Ns mainGlobals mg) (hfa : mg ("law" : Str) = some (.ref fa)) (c : SaysE exH dfs K) (base : Heap) : FnG P w K mg base 9 fa [] F_law := by
  have ba0 := c.fact
  have bb : ∀ (i : Nat) {b : Bool}, (bfs K)[i]? = some b → b = true := fun i b hb => List.all_eq_true.mp ba0 b (List.mem_of_getElem? hb)
  have T : Fx K mg freeN gloN ntsN xtsN := fxB_ok X G (bb 0 rfl)
  have TB : TbOk ⟨P, w, K, mg⟩ tb := tbB_ok X G (bb 1 rfl)
  have TE : TeOk ⟨P, w, K, mg⟩ te := teB_ok X G (bb 2 rfl)
  obtain ⟨fd0, Fd0⟩ := c.def_ 0 rfl
  have x_BadName : ExrG P w K mg base 1 "BadName" ["name"] := exrB_ok X G (bb 4 rfl) (o_BadNamex_initx Fd0) (Fd0.bindsN fun _ _ _ _ _ _ us hl => match us, hl with | [_, _], _ => rfl)
  obtain ⟨fd1, Fd1⟩ := c.def_ 1 rfl
  have x_BadValue : ExrG P w K mg base 1 "BadValue" ["value"] := exrB_ok X G (bb 5 rfl) (o_BadValuex_initx Fd1) (Fd1.bindsN fun _ _ _ _ _ _ us hl => match us, hl with | [_, _], _ => rfl)
  obtain ⟨fd2, Fd2⟩ := c.def_ 2 rfl
  have f_is_name : FnG P w K mg base 1 _ [] F_is_name := fnG_of Fd2 sc_is_name (shp_pos (Fd2.bindsN fun _ _ _ _ _ _ us hl => match us, hl with | [_], _ => rfl) .nil (fun _ => .nil)) (fun cdv A outer s H Er hr => j_is_name T TB TE  cdv A outer s H Er hr)
  have c_is_name : CalG P w K mg base 1 "is_name" [] F_is_name := ⟨_, f_is_name, T.gl 0 rfl, Fd2.kp⟩
  obtain ⟨fd3, Fd3⟩ := c.def_ 3 rfl
  have f_look_name : FnG P w K mg base 3 _ [] F_look_name := fnG_of Fd3 sc_look_name (shp_pos (Fd3.bindsN fun _ _ _ _ _ _ us hl => match us, hl with | [_], _ => rfl) .nil (fun _ => .nil)) (fun cdv A outer s H Er hr => j_look_name T TB TE c_is_name x_BadName cdv A outer s H Er hr)
  have c_look_name : CalG P w K mg base 3 "look_name" [] F_look_name := ⟨_, f_look_name, T.gl 1 rfl, Fd3.kp⟩
  obtain ⟨fd4, Fd4⟩ := c.def_ 4 rfl
  have m_Value_worked : MkrG P w K mg base 4 "Value" ["worked"] F_mk_Value_worked := ⟨_, _, mkB_ok (bb 6 rfl), fnI_of Fd4 sc_Valuex_initx (shp_star (ps := ["self"]) (pv := "people") (ms := ["worked"]) (kn := ["worked"]) (np := 1) (mn := []) (mD := []) Fd4 (by intro q hq; cases hq) (g := fun zs _ => zs) (fun rz _ => rz) (fun rz _ => rz) (fun _ => .nil) (fun h _ => h)
      (fun D kV doc pm an cdv ct us rest ws mv l1 l2 l3 _ => match us, l1, ws, l2, rest with | [_], _, [_], _, [] => ⟨_, rfl, fun t => rfl⟩ | [_], _, [_], _, _ :: _ => ⟨_, rfl, fun t => rfl⟩) (by decide)) (fun xx cdv A outer s H Er hr => j_Valuex_initx T TB TE c_look_name xx cdv A outer s H Er hr), T.gl 14 rfl⟩
  obtain ⟨fd5, Fd5⟩ := c.def_ 5 rfl
  have f_Value_pure : FnG P w K mg base 1 _ [] F_Value_pure := fnG_of Fd5 sc_Value_pure (shp_pos (Fd5.bindsN fun _ _ _ _ _ _ us hl => match us, hl with | [_], _ => rfl) .nil (fun _ => .nil)) (fun cdv A outer s H Er hr => j_Value_pure T TB TE  cdv A outer s H Er hr)
  have h_pure : PrOk P w K mg base 1 "pure" t_pure := ⟨fun q hq => by
    simp only [t_pure, List.mem_cons, List.not_mem_nil, or_false] at hq
    rcases hq with rfl
    · exact by obtain ⟨p1, p, p2⟩ := propB_ok (bb 12 rfl); exact ⟨_, p, _, T.gl 14 rfl, p1, p2, f_Value_pure.mono (by decide)⟩⟩
  obtain ⟨fd6, Fd6⟩ := c.def_ 6 rfl
  have f_Valuex_strx : FnG P w K mg base 1 _ [] F_Valuex_strx := fnG_of Fd6 sc_Valuex_strx (shp_pos (Fd6.bindsN fun _ _ _ _ _ _ us hl => match us, hl with | [_], _ => rfl) .nil (fun _ => .nil)) (fun cdv A outer s H Er hr => j_Valuex_strx T TB TE  cdv A outer s H Er hr)
  have h_str : SpOk P w K mg base 1 "__str__" t_str := ⟨fun q hq => by
    simp only [t_str, List.mem_cons, List.not_mem_nil, or_false] at hq
    rcases hq with rfl
    · exact ⟨_, _, T.gl 14 rfl, (spB_ok (bb 8 rfl)).1, (spB_ok (bb 8 rfl)).2, f_Valuex_strx.mono (by decide)⟩⟩
  obtain ⟨fd7, Fd7⟩ := c.def_ 7 rfl
  have f_Valuex_lenx : FnG P w K mg base 1 _ [] F_Valuex_lenx := fnG_of Fd7 sc_Valuex_lenx (shp_pos (Fd7.bindsN fun _ _ _ _ _ _ us hl => match us, hl with | [_], _ => rfl) .nil (fun _ => .nil)) (fun cdv A outer s H Er hr => j_Valuex_lenx T TB TE  cdv A outer s H Er hr)
  have h_len : SpOk P w K mg base 1 "__len__" t_len := ⟨fun q hq => by
    simp only [t_len, List.mem_cons, List.not_mem_nil, or_false] at hq
    rcases hq with rfl
    · exact ⟨_, _, T.gl 14 rfl, (spB_ok (bb 9 rfl)).1, (spB_ok (bb 9 rfl)).2, f_Valuex_lenx.mono (by decide)⟩⟩
  obtain ⟨fd8, Fd8⟩ := c.def_ 8 rfl
  have f_Valuex_containsx : FnG P w K mg base 1 _ [] F_Valuex_containsx := fnG_of Fd8 sc_Valuex_containsx (shp_pos (Fd8.bindsN fun _ _ _ _ _ _ us hl => match us, hl with | [_, _], _ => rfl) .nil (fun _ => .nil)) (fun cdv A outer s H Er hr => j_Valuex_containsx T TB TE  cdv A outer s H Er hr)
  have h_contains : SpOk P w K mg base 1 "__contains__" t_contains := ⟨fun q hq => by
    simp only [t_contains, List.mem_cons, List.not_mem_nil, or_false] at hq
    rcases hq with rfl
    · exact ⟨_, _, T.gl 14 rfl, (spB_ok (bb 10 rfl)).1, (spB_ok (bb 10 rfl)).2, f_Valuex_containsx.mono (by decide)⟩⟩
  obtain ⟨fd9, Fd9⟩ := c.def_ 9 rfl
  have f_Valuex_boolx : FnG P w K mg base 1 _ [] F_Valuex_boolx := fnG_of Fd9 sc_Valuex_boolx (shp_pos (Fd9.bindsN fun _ _ _ _ _ _ us hl => match us, hl with | [_], _ => rfl) .nil (fun _ => .nil)) (fun cdv A outer s H Er hr => j_Valuex_boolx T TB TE  cdv A outer s H Er hr)
  have h_bool : SpOk P w K mg base 1 "__bool__" t_bool := ⟨fun q hq => by
    simp only [t_bool, List.mem_cons, List.not_mem_nil, or_false] at hq
    rcases hq with rfl
    · exact ⟨_, _, T.gl 14 rfl, (spB_ok (bb 11 rfl)).1, (spB_ok (bb 11 rfl)).2, f_Valuex_boolx.mono (by decide)⟩⟩
  obtain ⟨fd10, Fd10⟩ := c.def_ 10 rfl
  have f_Value_of : FnG P w K mg base 6 _ [] F_Value_of := fnG_of Fd10 sc_Value_of (shp_or (shp_dfl Fd10 2 1 (by intro z; cases z) rfl (fun T kV doc pm an cdv ct us its l1 l2 => match us, l1, its, l2 with | [_, _], _, [_], _ => ⟨_, rfl, rfl⟩) (fun _ => .nil)) (shp_dfl Fd10 1 0 (by intro z; cases z) rfl (fun T kV doc pm an cdv ct us its l1 l2 => match us, l1, its, l2 with | [_], _, [_], _ => ⟨_, rfl, rfl⟩) (fun _ => (.cons (.bl _) .nil)))) (fun cdv A outer s H Er hr => j_Value_of T TB TE m_Value_worked cdv A outer s H Er hr)
  have st_Value_of : SttG P w K mg base 6 "Value" "of" [] F_Value_of := ⟨_, _, _, statB_ok (bb 7 rfl), f_Value_of, T.gl 14 rfl⟩
  obtain ⟨fd11, Fd11⟩ := c.def_ 11 rfl
  have f_law_bagged : FnG P w K mg base 1 _ [] F_law_bagged := fnG_of Fd11 sc_law_bagged (shp_pos (Fd11.bindsN fun _ _ _ _ _ _ us hl => match us, hl with | [_, _], _ => rfl) .nil (fun _ => .nil)) (fun cdv A outer s H Er hr => j_law_bagged T TB TE  cdv A outer s H Er hr)
  have c_law_bagged : CalG P w K mg base 1 "_law_bagged" [] F_law_bagged := ⟨_, f_law_bagged, T.gl 2 rfl, Fd11.kp⟩
  obtain ⟨fd12, Fd12⟩ := c.def_ 12 rfl
  have f_law_draw : FnG P w K mg base 1 _ [] F_law_draw := fnG_of Fd12 sc_law_draw (shp_pos (Fd12.bindsN fun _ _ _ _ _ _ us hl => match us, hl with | [_, _], _ => rfl) .nil (fun _ => .nil)) (fun cdv A outer s H Er hr => j_law_draw T TB TE  cdv A outer s H Er hr)
  have c_law_draw : CalG P w K mg base 1 "_law_draw" [] F_law_draw := ⟨_, f_law_draw, T.gl 3 rfl, Fd12.kp⟩
  obtain ⟨fd13, Fd13⟩ := c.def_ 13 rfl
  have f_law_of : FnG P w K mg base 2 _ [] F_law_of := fnG_of Fd13 sc_law_of (shp_pos (Fd13.bindsN fun _ _ _ _ _ _ us hl => match us, hl with | [_, _], _ => rfl) .nil (fun _ => .nil)) (fun cdv A outer s H Er hr => j_law_of T TB TE c_law_draw cdv A outer s H Er hr)
  have c_law_of : CalG P w K mg base 2 "_law_of" [] F_law_of := ⟨_, f_law_of, T.gl 4 rfl, Fd13.kp⟩
  obtain ⟨fd14, Fd14⟩ := c.def_ 14 rfl
  have f_law_one_word : FnG P w K mg base 2 _ [] F_law_one_word := fnG_of Fd14 sc_law_one_word (shp_pos (Fd14.bindsN fun _ _ _ _ _ _ us hl => match us, hl with | [_, _], _ => rfl) .nil (fun _ => .nil)) (fun cdv A outer s H Er hr => j_law_one_word T TB TE c_law_draw cdv A outer s H Er hr)
  have c_law_one_word : CalG P w K mg base 2 "_law_one_word" [] F_law_one_word := ⟨_, f_law_one_word, T.gl 5 rfl, Fd14.kp⟩
  obtain ⟨fd15, Fd15⟩ := c.def_ 15 rfl
  have f_law_odd_one : FnG P w K mg base 2 _ [] F_law_odd_one := fnG_of Fd15 sc_law_odd_one (shp_pos (Fd15.bindsN fun _ _ _ _ _ _ us hl => match us, hl with | [_, _], _ => rfl) .nil (fun _ => .nil)) (fun cdv A outer s H Er hr => j_law_odd_one T TB TE c_law_draw cdv A outer s H Er hr)
  have c_law_odd_one : CalG P w K mg base 2 "_law_odd_one" [] F_law_odd_one := ⟨_, f_law_odd_one, T.gl 6 rfl, Fd15.kp⟩
  obtain ⟨fd16, Fd16⟩ := c.def_ 16 rfl
  have f_law_is_truth : FnG P w K mg base 1 _ [] F_law_is_truth := fnG_of Fd16 sc_law_is_truth (shp_pos (Fd16.bindsN fun _ _ _ _ _ _ us hl => match us, hl with | [_, _], _ => rfl) .nil (fun _ => .nil)) (fun cdv A outer s H Er hr => j_law_is_truth T TB TE  cdv A outer s H Er hr)
  have c_law_is_truth : CalG P w K mg base 1 "_law_is_truth" [] F_law_is_truth := ⟨_, f_law_is_truth, T.gl 7 rfl, Fd16.kp⟩
  obtain ⟨fd17, Fd17⟩ := c.def_ 17 rfl
  have f_law_people_drawn : FnG P w K mg base 3 _ [] F_law_people_drawn := fnG_of Fd17 sc_law_people_drawn (shp_pos (Fd17.bindsN fun _ _ _ _ _ _ us hl => match us, hl with | [_], _ => rfl) .nil (fun _ => .nil)) (fun cdv A outer s H Er hr => j_law_people_drawn T TB TE c_law_one_word c_law_of cdv A outer s H Er hr)
  have c_law_people_drawn : CalG P w K mg base 3 "_law_people_drawn" [] F_law_people_drawn := ⟨_, f_law_people_drawn, T.gl 8 rfl, Fd17.kp⟩
  obtain ⟨fd18, Fd18⟩ := c.def_ 18 rfl
  have f_law_refused : FnG P w K mg base 7 _ [] F_law_refused := fnG_of Fd18 sc_law_refused (shp_pos (Fd18.bindsN fun _ _ _ _ _ _ us hl => match us, hl with | [_, _], _ => rfl) .nil (fun _ => .nil)) (fun cdv A outer s H Er hr => j_law_refused T TB TE c_law_odd_one c_law_draw st_Value_of cdv A outer s H Er hr)
  have c_law_refused : CalG P w K mg base 7 "_law_refused" [] F_law_refused := ⟨_, f_law_refused, T.gl 9 rfl, Fd18.kp⟩
  obtain ⟨fd19, Fd19⟩ := c.def_ 19 rfl
  have f_law_right : FnG P w K mg base 8 _ [] F_law_right := fnG_of Fd19 sc_law_right (shp_pos (Fd19.bindsN fun _ _ _ _ _ _ us hl => match us, hl with | [_], _ => rfl) .nil (fun _ => .nil)) (fun cdv A outer s H Er hr => j_law_right T TB TE c_law_people_drawn c_law_draw c_law_refused st_Value_of c_law_is_truth h_pure h_str h_len c_law_odd_one h_contains h_bool cdv A outer s H Er hr)
  have c_law_right : CalG P w K mg base 8 "_law_right" [] F_law_right := ⟨_, f_law_right, T.gl 10 rfl, Fd19.kp⟩
  obtain ⟨fd20, Fd20⟩ := c.def_ 20 rfl
  have f_law : FnG P w K mg base 9 _ [] F_law := fnG_of Fd20 sc_law (shp_pos (Fd20.bindsN fun _ _ _ _ _ _ us hl => match us, hl with | [_], _ => rfl) .nil (fun _ => .nil)) (fun cdv A outer s H Er hr => j_law T TB TE c_law_right c_law_bagged cdv A outer s H Er hr)
  have c_law : CalG P w K mg base 9 "law" [] F_law := ⟨_, f_law, T.gl 11 rfl, Fd20.kp⟩
  have e := hfa.symm.trans (T.gl 11 (x := "law") rfl)
  cases e
  exact f_law
end F

open PySem PySem.W PySem.Calls PyProof.Rows
theorem PySem.Challenge.cw_erasedtrails_k01_values_made_holds : PySem.Challenge.rw_erasedtrails_k01_values_made.Holds := by
  w_on; o_law
  refine HandSHeadRun.head_any (r := OpenLaw.row PySem.Challenge.rw_erasedtrails_k01_values_made) (q := view (OpenLaw.row PySem.Challenge.rw_erasedtrails_k01_values_made).prog [20]) (H := F.hkF) (ob := F.obF) (M := 20000) (loose := F.looseN) (d := HandSHeadRun.topDef (OpenLaw.row PySem.Challenge.rw_erasedtrails_k01_values_made).prog 20) (kwd := []) F.obF_eq
    (by kernel_rfl) (fun s => by kernel_rfl) F.runF (by kernel_rfl) (by kernel_rfl) (by kernel_rfl) (by rfl) (by first | assumption | decide +kernel) (by decide +kernel) ⟨rfl, rfl, rfl, rfl, rfl, by decide +kernel⟩ ?hw ?hc
  case hw => w_witness2
  case hc =>
    refine F.walk_F (l := PySem.Challenge.rw_erasedtrails_k01_values_made) (n := 63) (k := 9) (Fl := F.F_law) rfl (by decide) (by kernel_rfl) ⟨⟨rfl, by decide, by decide⟩, rfl⟩ ?F F.law_true
    intro w mg fa h Y G hmg0
    obtain ⟨K, KX, c⟩ := Y
    have hmg : mg ("law" : PySem.Str) = some (.ref fa) := by
      have e : (HandSHeadRun.topDef (OpenLaw.row PySem.Challenge.rw_erasedtrails_k01_values_made).prog 20).name = ("law" : PySem.Str) := by kernel_rfl
      rw [← e]
      exact hmg0
    exact ⟨K, KX, fun base _ _ => F.factsF KX G hmg c base⟩
