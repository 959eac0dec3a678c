import PyProof.Rows.All
import Wide.All
import OpenK.AllK
import Wide.FinOn
import HandS.ForMost
import HandS.ForExc
import HandS.Wide
import HandS.Defaults
import HandS.Flow
import HandS.Evl
import HandS.IsInst
import HandS.SetKeys
import HandS.TupAny
import HandS.MakeKwOnly
import HandS.ClsMeth
import HandS.Codes
import HandS.Star
import HandS.Property
import HandS.TryMany
import HandS.ExcField
import HandS.ExcIs
import HandS.ExcInit
import HandS.SlotsOwn
import HandS.More
import HandS.Head0
import HandS.Head1
import HandS.Head2
import HandS.HeadEnd
import HandS.HeadHook1
import HandS.HeadHook2
import HandS.Ends
import HandS.Words
import KE.KStateDown
import HandS.Style
import KE.KSuper
import HandS.ExcCtx
import KE.KExcInit
import PyProof.ExcBaseAll.OverflowError
import PyProof.ExcBaseAll.LookupError
import PyProof.ExcBaseAll.RuntimeError
import PyProof.ExcBaseAll.ValueError
import HandS.ExcOwn
import HandS.WordsExc
import HandS.Zip
import KE.GoesMore
import PyProof.Rows.ReprR
import HandS.Set
import PyProof.Rows.SortStr
import HandS.SortOrd
import HandS.FStr
import HandS.StrMore
import HandS.Dict
import HandS.NoneIn
import HandS.Conv
import HandS.ListItems
import HandS.OwnEq
import HandS.Deep
import HandS.TupMul
import HandS.Strs
import HandS.HotCalls
import HandS.Iter
import HandS.Comp
import PySem.Challenge.RW_erasedtrails_k33_errors
set_option Elab.async false
set_option linter.all false
set_option maxRecDepth 100000
set_option maxHeartbeats 0
/-! The views: G the part of the heap that stands for good, M the objects that may still change -/
namespace E
open PySem L2 Evl
abbrev MM := List (Addr × (HO → Prop))
structure Vw (M : MM) (G H : Hp) : Prop where
  ex : Ex G H
  mu : ∀ q ∈ M, G q.1 = none ∧ ∃ o, H q.1 = some o ∧ q.2 o
  nd : (M.map (·.1)).Nodup
section
variable {M : MM} {G G' H H' : Hp} {a p : Addr} {o o' : HO} {φ ψ : HO → Prop} {q q' : Addr × (HO → Prop)}
theorem ex_upd {G H : Hp} (e : Ex G H) (p : Addr) (o : HO) : Ex (upd G p o) (upd H p o) := fun b u h => by
  by_cases hb : b = p
  · subst hb
    rw [upd_same] at h ⊢
    exact h
  · rw [upd_ne hb] at h ⊢
    exact e b u h
theorem Vw.free (w : Vw M G H) (h : H p = none) : G p = none := fresh_back w.ex h
theorem Vw.ne (w : Vw M G H) (hq : q ∈ M) (h : H p = none) : q.1 ≠ p := by
  obtain ⟨_, u, e, _⟩ := w.mu q hq
  exact ne_of_none e h
theorem Vw.new (w : Vw M G H) (h : H p = none) : Vw M (upd G p o) (upd H p o) :=
  ⟨ex_upd w.ex p o, fun q hq => by
    obtain ⟨g, u, e, f⟩ := w.mu q hq
    have n := w.ne hq h
    exact ⟨by rw [upd_ne n]; exact g, u, by rw [upd_ne n]; exact e, f⟩, w.nd⟩
theorem Vw.get (w : Vw ((a, φ) :: M) G H) : ∃ o, H a = some o ∧ φ o := (w.mu _ List.mem_cons_self).2
theorem Vw.out (w : Vw ((a, φ) :: M) G H) : G a = none := (w.mu _ List.mem_cons_self).1
theorem Vw.put (w : Vw ((a, φ) :: M) G H) (f : ψ o) : Vw ((a, ψ) :: M) G (upd H a o) :=
  ⟨w.ex.mut w.out, fun q hq => by
    rcases List.mem_cons.mp hq with rfl | hq'
    · exact ⟨w.out, o, upd_same, f⟩
    · obtain ⟨g, u, e, f⟩ := w.mu q (List.mem_cons_of_mem _ hq')
      have n := (List.nodup_cons.mp w.nd).1
      exact ⟨g, u, by rw [upd_ne fun z => n (List.mem_map.mpr ⟨q, hq', z⟩)]; exact e, f⟩, w.nd⟩
theorem Vw.imp (w : Vw ((a, φ) :: M) G H) (f : ∀ o, φ o → ψ o) : Vw ((a, ψ) :: M) G H :=
  ⟨w.ex, fun q hq => by
    rcases List.mem_cons.mp hq with rfl | hq
    · obtain ⟨g, u, e, k⟩ := w.mu _ List.mem_cons_self
      exact ⟨g, u, e, f _ k⟩
    · exact w.mu q (List.mem_cons_of_mem _ hq), w.nd⟩
theorem Vw.tail (w : Vw (q :: M) G H) : Vw M G H := ⟨w.ex, fun p hp => w.mu p (List.mem_cons_of_mem _ hp), (List.nodup_cons.mp w.nd).2⟩
/-- what may change no more -/
theorem Vw.frz (w : Vw ((a, (· = o)) :: M) G H) : Vw M (upd G a o) H := by
  obtain ⟨u, e, f⟩ := w.get
  have f' : u = o := f
  subst f'
  refine ⟨fun b v h => ?_, fun q hq => ?_, w.tail.nd⟩
  · by_cases hb : b = a
    · subst hb
      rw [upd_same] at h
      cases h
      exact e
    · rw [upd_ne hb] at h
      exact w.ex b v h
  · obtain ⟨g, u, e, f⟩ := w.mu q (List.mem_cons_of_mem _ hq)
    have n := (List.nodup_cons.mp w.nd).1
    exact ⟨by rw [upd_ne fun z => n (List.mem_map.mpr ⟨q, hq, z⟩)]; exact g, u, e, f⟩
theorem Vw.plain (e : Ex G H) : Vw [] G H := ⟨e, (fun _ h => nomatch h), List.nodup_nil⟩
end
/-! ### the steps of a reading -/
section
variable {K : PySem.W.Frag} {σ : L2.St} {H : Hp} {D : Ends} {Q : VK} {ta tb tc te : TE} {t u : TS} {tt tu : TT} {R : Bool → Hp → Prop} {i j : Int} {v : V} {b : Bool}
end
/-! ### readings with names -/
section
variable {X : Cx}
def rInt : List V → Hp → VK → Prop := fun xs H Q => (∃ i, xs = [V.int i] ∧ Q (V.int i) H) ∨ ∃ k, xs = [V.bl k] ∧ Q (V.int (if k = true then 1 else 0)) H
theorem call_int : CallR X (.type "int") rInt := call_int1
def rAbs : List V → Hp → VK → Prop := fun xs H Q => ∃ i, xs = [.int i] ∧ Q (.int (if i < 0 then -i else i)) H
theorem call_absR : CallR X (.builtin "abs") rAbs := call_abs
def rMin : List V → Hp → VK → Prop := fun xs H Q => ∃ i j, xs = [.int i, .int j] ∧ Q (.int (if j < i then j else i)) H
theorem call_min (hc : X.calm = true) : CallR X (.builtin "min") rMin := call_min2 hc
def rMax : List V → Hp → VK → Prop := fun xs H Q => ∃ i j, xs = [.int i, .int j] ∧ Q (.int (if j > i then j else i)) H
theorem call_max (hc : X.calm = true) : CallR X (.builtin "max") rMax := call_max2 hc
def rAddStr : R2 := fun x y H Q => ∃ i j, x = .str i ∧ y = .str j ∧ i.length + j.length ≤ sizeLine ∧ Q (.str (i ++ j)) H
end
section
variable {K : PySem.W.Frag} {σ : L2.St} {H G : Hp} {M : MM} {Q : VK} {i j : Int} {v : V} {b : Bool} {x y : Str} {xs ys : List V} {p q : Addr}
theorem g_int (h : Q (.int i) H) : rInt [.int i] H Q := Or.inl ⟨i, rfl, h⟩
theorem g_intB (h : Q (.int (if b = true then 1 else 0)) H) : rInt [.bl b] H Q := Or.inr ⟨b, rfl, h⟩
theorem g_abs (h : Q (.int (if i < 0 then -i else i)) H) : rAbs [.int i] H Q := ⟨i, rfl, h⟩
theorem g_min (h : Q (.int (if j < i then j else i)) H) : rMin [.int i, .int j] H Q := ⟨i, j, rfl, h⟩
theorem g_max (h : Q (.int (if j > i then j else i)) H) : rMax [.int i, .int j] H Q := ⟨i, j, rfl, h⟩
theorem g_ixL (hs : SqL K H p xs) (ha : atI xs i = some v) (h : Q v H) : rIx K (.ref p) (.int i) H Q := Or.inl ⟨p, xs, i, v, rfl, rfl, hs, ha, h⟩
theorem g_ixT (hs : SqT K H p xs) (ha : atI xs i = some v) (h : Q v H) : rIx K (.ref p) (.int i) H Q := Or.inr (Or.inl ⟨p, xs, i, v, rfl, rfl, hs, ha, h⟩)
theorem g_ixS {c : Nat} (hs : x.length ≤ sizeLine) (ha : atI x.cps.toList i = some c) (h : Q (.str ⟨#[c]⟩) H) : rIx K (.str x) (.int i) H Q := Or.inr (Or.inr ⟨x, i, c, rfl, rfl, hs, ha, h⟩)
theorem atI_of {α : Type} {xs : List α} {i : Int} {v : α} (h0 : 0 ≤ i) (h : xs[i.toNat]? = some v) : atI xs i = some v := by
  have l : i.toNat < xs.length := by
    obtain ⟨h1, _⟩ := List.getElem?_eq_some_iff.mp h
    exact h1
  unfold atI ixN
  rw [if_pos h0, if_pos (by omega)]
  exact h
end
end E

namespace E
open PySem L2 Evl
def rEqU (K : PySem.W.Frag) : R2 := fun x y H Q => rEq x y H Q ∨ rEqD K x y H Q
def rNeU (K : PySem.W.Frag) : R2 := fun x y H Q => rNe x y H Q ∨ rNeD K x y H Q
section
variable {X : Cx} {o e : Expr} {to te : TE}
theorem op_eqU (hu : X.A.units + 64 < cLine) : OpR X (compareOp .Eq) (rEqU X.K) := OpR.or op_eq (op_eqD hu)
theorem op_neU (hu : X.A.units + 64 < cLine) : OpR X (compareOp .NotEq) (rNeU X.K) := OpR.or op_ne (op_neD hu)
theorem pe_gc {x : Str} {v : V} {pos : Pos} (hg : Gl X x) (h : ∃ u, X.mg x = some u ∧ RelV v u) (hd : (x == ("__debug__" : Str)) = false := by decide) : PE X (.Name x pos) (tC v) := by
  obtain ⟨u, a, b⟩ := h
  exact pe_glob hg a b hd
end
section
variable {X : Cx} {k j : Nat} {C : Addr} {x m : Str} {sp : Sp} {dvs : List V} {p pos apos : Pos} {e o : Expr} {es : List Expr} {ta : TE} {t : TA}
end
section
variable {K : PySem.W.Frag} {σ : L2.St} {H G : Hp} {M : MM} {Q : VK} {i j : Int} {v : V} {b : Bool} {x y : Str} {xs ys : List V} {p q : Addr} {ta tb te : TE} {R : Bool → Hp → Prop} {D : Ends}
end
end E
/-! walks over a list or a tuple -/
namespace E
open PySem PySem.Spec PyProof.Rows L2 Evl
section
variable {X : Cx} {tg : Expr}
end
/-- what stands at a, list or tuple -/
def Sq (K : PySem.W.Frag) (H : Hp) (a : Addr) (xs : List V) : Prop := SqL K H a xs ∨ SqT K H a xs
theorem Sq.ex {K : PySem.W.Frag} {G H : Hp} {a : Addr} {xs : List V} (e : Ex G H) (h : Sq K G a xs) : Sq K H a xs := h.elim (fun h => Or.inl (ex_l e h)) fun h => Or.inr (ex_t e h)
end E

/-! Rules that HandS has not: calls with stars and keywords, defs with *args and keyword-only parameters, functions off a class, own ==, != and in -/
namespace PySem.W
open PySem PySem.Calls PyProof.Rows
section
variable {M : Model} {A : Around} {E : Value → Shared → Prop} {s : Shared} {K : Frag} {env : Env} {pos p : Pos} {f : Value} {first : List Value} {Q : Value → Shared → Prop}
theorem eq_callStar {P : Heap → Prop} {args : List (Bool × Sem Value)} {kws : List (Option Str × Sem Value)} (hst : (args.any (·.1) || kws.any (·.1.isNone)) = true)
    (hk : ∀ h, P h → ∃ k, (k = Keeper.frame ∨ k = Keeper.machine ∨ k = Keeper.boundFrame) ∧ Looks M h (keeperOf f) k)
    (h : wpAny M A (evalArgs f true args kws) (fun a s₁ => P s₁.heap ∧ wpAny M A (call f (first ++ a.pos) a.kw) Q E s₁) E s) : wpAny M A (callWith pos f first args kws) Q E s := by
  unfold callWith
  refine wpAny_bind (wpAny_holding (wpAny_mono h (fun a s₁ h₁ => wpAny_bind (wpAny_standAt ?_)) fun _ _ x => x))
  obtain ⟨k, hk', L⟩ := hk _ h₁.1
  simp only [hst]
  refine wpAny_bind (L.here ?_)
  have tail : ∀ {t : Sem Value}, wpAny M A t Q E s₁ → wpAny M A (t >>= fun r => holding [r] point >>= fun _ => pure r) Q E s₁ :=
    fun ht => wpAny_bind (wpAny_mono ht (fun r s₂ hr => wpAny_bind (wpAny_holding (wpAny_point (wpAny_pure hr)))) fun _ _ x => x)
  have marked (mk : Value) : wpAny M A (callMarked mk f (first ++ a.pos) a.kw) Q E s₁ := by unfold callMarked; exact Calls.wpAny_keep h₁.2
  rcases hk' with rfl | rfl | rfl <;> dsimp only <;> first | exact tail (marked _) | exact tail (wpAny_operating h₁.2)
/-- a call with any arguments and keywords that have names -/
theorem callWith_A {e : Expr} {rest : List Expr} {kws : List Keyword} (hk : keepIn K f = true) (hall : (backToKw pos (keywordEach kws env)).all (·.1.isSome) = true)
    (h : wpAny M A (spliced (backTo pos (starEach (e :: rest) env))) (fun vs s₁ => wpAny M A (evalAll ((backToKw pos (keywordEach kws env)).map (·.2)))
      (fun ks s₂ => K.In s₂.heap ∧ wpAny M A (call f (first ++ vs) (((backToKw pos (keywordEach kws env)).filterMap (·.1)).zip ks)) Q E s₂) E s₁) E s)
    (he : starEach (e :: rest) env = (false, eval e env) :: starEach rest env := by rfl) :
    wpAny M A (callWith pos f first (backTo pos (starEach (e :: rest) env)) (backToKw pos (keywordEach kws env))) Q E s := by
  have g : wpAny M A (evalArgs f true (backTo pos (starEach (e :: rest) env)) (backToKw pos (keywordEach kws env))) (fun a s₁ => K.In s₁.heap ∧ wpAny M A (call f (first ++ a.pos) a.kw) Q E s₁) E s := evalArgs_kw2 hall h he
  cases q : ((backTo pos (starEach (e :: rest) env)).any (·.1) || (backToKw pos (keywordEach kws env)).any (·.1.isNone)) with
  | false => exact callWith_of q (keeps_K hk) g
  | true => exact eq_callStar q (keeps_K hk) g
end
end PySem.W

namespace E
open PySem PySem.Spec PyProof.Rows L2 StX
/-- a def at f that may be called with any positional values and the keywords kn -/
def FnK (P : Program) (w : World) (K : PySem.W.Frag) (mg : Str → Option Value) (base : Heap) (CX : CXT) (k : Nat) (f : Addr) (kn : List Str) (sp : List V → List V → Hp → VK → XK → Prop) : Prop :=
  ∀ (A : Around) (outer : List Env) (s : Shared) (H : Hp) (us : List Value) (vs : List V) (ws : List Value) (zs : List V) (Q : VK) (E : XK), Room k A → Env0 P w K mg base A outer s H → Vals vs us → Vals zs ws → zs.length = kn.length → sp vs zs H Q E →
    codeAny (model P w) A (.call (.ref f) ⟨us, kn.zip ws⟩) (CR CX outer P w H s Q E) s
section
variable {CX : CXT} {P : Program} {w : World} {K : PySem.W.Frag} {mg : Str → Option Value} {base : Heap} {k j : Nat} {f : Addr} {kn : List Str}
theorem FnK.mono {sp : List V → List V → Hp → VK → XK → Prop} (F : FnK P w K mg base CX j f kn sp) (h : j ≤ k) : FnK P w K mg base CX k f kn sp := fun A outer s H us vs ws zs Q E hr => F A outer s H us vs ws zs Q E (hr.mono h)
theorem FnK.imp {sp sp' : List V → List V → Hp → VK → XK → Prop} (F : FnK P w K mg base CX k f kn sp) (h : ∀ vs zs H Q E, sp' vs zs H Q E → sp vs zs H Q E) : FnK P w K mg base CX k f kn sp' := fun A outer s H us vs ws zs Q E hr e0 r rz l q => F A outer s H us vs ws zs Q E hr e0 r rz l (h _ _ _ _ _ q)
end
section
variable {CX : CXT} {P : Program} {w : World} {K : PySem.W.Frag} {mg : Str → Option Value} {base : Heap} {k : Nat} {f : Addr} {name qual : Str} {params : Arguments} {body : List Stmt} {scope : Scope} {dvs : List V} {kws : List (Str × V)} {fd : FuncData}
  {N ps kn ms : List Str} {sp : Sp} {pv : Str}
end
/-! ### making instances -/
section
variable {X : Cx} {CX : CXT} {k : Nat} {f C : Addr} {kn : List Str} {sp : List V → List V → Hp → VK → XK → Prop} {Er : XK} {x : Str} {p q pos : Pos} {e : Expr} {es : List Expr} {kws : List Keyword} {te : TE} {t tk : TA}
end
/-! ### a function off a class: C.f(..), by a staticmethod or plain -/
section
variable {X : Cx} {CX : CXT} {k : Nat} {C g : Addr} {mc : Value} {kn : List Str} {sp : List V → List V → Hp → VK → XK → Prop} {Er : XK} {m : Str} {p q pos apos : Pos} {e o : Expr} {es : List Expr} {kws : List Keyword} {ta : TE} {t tk : TA} {pl : Sem Bool}
end
end E


/-! facts of the head: defs at any place, one Bool -/
namespace E
open PySem PySem.Spec PyProof.Rows L2 He
structure Df where
  ad : PySem.W.Frag → Addr
  name : Str
  qual : Str
  st : Stmt
  dfl : List Dv := []
  kwd : List (Str × Dv) := []
def fnAt (K : PySem.W.Frag) (a : Addr) : FnW := match K.lookup a with
  | some ⟨_, _, .func fd, _⟩ => some (fd.name, fd.qualname, fd.params, fd.body, fd.scope, fd.globals, fd.closure, fd.builtins)
  | _ => none
def Df.val (d : Df) : FnW := some (d.name, d.qual, defArgs d.st, .stmts (defBody d.st), defScope d.st, mainGlobals, [], builtinsNs)
def Df.dvs (K : PySem.W.Frag) (d : Df) : List V := d.dfl.map (Dv.v K)
def Df.kws (K : PySem.W.Frag) (d : Df) : List (Str × V) := d.kwd.map fun q => (q.1, q.2.v K)
def Df.ok (K : PySem.W.Frag) (d : Df) : Bool := PySem.W.keepIn K (.ref (d.ad K)) && (match K.lookup (d.ad K) with
  | some ⟨_, _, .func fd, _⟩ => PySem.W.codeIn K fd.code d.qual && (dflB K fd.defaults (d.dvs K) && kwdB K fd.kwdefaults (d.kws K))
  | _ => false)
theorem Df.funD {K : PySem.W.Frag} {d : Df} (e : fnAt K (d.ad K) = d.val) (c : d.ok K = true) : ∃ fd, FunD K d.name d.qual (defArgs d.st) (defBody d.st) (defScope d.st) (d.dvs K) (d.kws K) (d.ad K) fd := by
  obtain ⟨kp, c2⟩ := ba c
  unfold fnAt at e
  cases q : K.lookup (d.ad K) with
  | none =>
    rw [q] at c2
    cases c2
  | some o =>
    obtain ⟨oc, od, dt, osl⟩ := o
    rw [q] at c2 e
    cases dt with
    | func fd =>
      obtain ⟨n1, n2, n3, n4, n5, n6, n7, n8, n9, n10, n11, n12, n13, n14, n15⟩ := fd
      have e2 : (some (n1, n2, n3, n4, n5, n6, n7, n15) : FnW) = some (d.name, d.qual, defArgs d.st, .stmts (defBody d.st), defScope d.st, mainGlobals, [], builtinsNs) := e
      simp only [Option.some.injEq, Prod.mk.injEq] at e2
      obtain ⟨h1, h2, h3, h4, h5, h6, h7, h8⟩ := e2
      subst h1 h2 h6 h7 h8
      rw [h3, h4, h5] at q
      have c3 : (PySem.W.codeIn K n13 d.qual && (dflB K n8 (d.dvs K) && kwdB K n9 (d.kws K))) = true := c2
      obtain ⟨k1, k2⟩ := ba c3
      obtain ⟨k3, k4⟩ := ba k2
      exact ⟨_, ⟨oc, od, n8, n9, n10, n11, n12, n13, n14, osl, rfl, q, k1, dflB_ok k3, kwdB_ok k4⟩, kp⟩
    | _ => cases c2
abbrev AlE : Type := Bool × List FnW
def obsE (ex : PySem.W.Frag → Bool) (fn : List Df) (K : PySem.W.Frag) : AlE := (ex K && fn.all fun d => d.ok K, fn.map fun d => fnAt K (d.ad K))
def valE (fn : List Df) : AlE := (true, fn.map Df.val)
def SaysE (ex : PySem.W.Frag → Bool) (fn : List Df) (K : PySem.W.Frag) : Prop := obsE ex fn K = valE fn
section
variable {ex : PySem.W.Frag → Bool} {fn : List Df} {K : PySem.W.Frag}
theorem SaysE.fact (c : SaysE ex fn K) : ex K = true := (ba (show (ex K && fn.all fun d => d.ok K) = true from congrArg (fun z : AlE => z.1) c)).1
theorem SaysE.def_ (c : SaysE ex fn K) (i : Nat) {d : Df} (h : fn[i]? = some d := by rfl) : ∃ fd, FunD K d.name d.qual (defArgs d.st) (defBody d.st) (defScope d.st) (d.dvs K) (d.kws K) (d.ad K) fd := by
  have c2 := (ba (show (ex K && fn.all fun d => d.ok K) = true from congrArg (fun z : AlE => z.1) c)).2
  have e : fn.map (fun d => fnAt K (d.ad K)) = fn.map Df.val := congrArg (fun z : AlE => z.2) c
  have e2 : (fn.map fun d => fnAt K (d.ad K))[i]? = (fn.map Df.val)[i]? := by rw [e]
  rw [List.getElem?_map, List.getElem?_map, h] at e2
  exact Df.funD (Option.some.inj e2) (List.all_eq_true.mp c2 d (List.mem_of_getElem? h))
end
/-! facts of classes -/
/-- what a field, isinstance ask of the class at C -/
structure ClsF (K : PySem.W.Frag) (C : Addr) : Prop where
  cls : Cls K C
  ca : PySem.W.findIn K (.ref C) "__class__" = some (some (.builtin "object.__class__"))
  cn : PySem.W.specialIn K (.builtin "object.__class__") "__get__" = some (some (.builtin "getset_descriptor.__get__"))
  ct : PySem.W.takesIn K (.builtin "object.__class__") = some true
  cm : PySem.W.mroIn K C (.type "object") = some true
def clsFB (K : PySem.W.Frag) (C : Addr) : Bool := PySem.W.plainGet K C Str.empty && (PySem.W.hasDictIn K C && (PySem.W.plainOver K C && (eqO (PySem.W.findIn K (.ref C) "__setattr__") (some (some (.builtin "object.__setattr__"))) &&
  (eqO (PySem.W.findIn K (.ref C) "__class__") (some (some (.builtin "object.__class__"))) && (eqO (PySem.W.specialIn K (.builtin "object.__class__") "__get__") (some (some (.builtin "getset_descriptor.__get__"))) &&
  (decide (PySem.W.takesIn K (.builtin "object.__class__") = some true) && decide (PySem.W.mroIn K C (.type "object") = some true)))))))
theorem clsFB_ok {K : PySem.W.Frag} {C : Addr} (h : clsFB K C = true) : ClsF K C := by
  obtain ⟨h1, h⟩ := ba h
  obtain ⟨h2, h⟩ := ba h
  obtain ⟨h3, h⟩ := ba h
  obtain ⟨h4, h⟩ := ba h
  obtain ⟨h5, h⟩ := ba h
  obtain ⟨h6, h⟩ := ba h
  obtain ⟨h7, h8⟩ := ba h
  exact ⟨⟨h1, h2, h3, eqO_ok h4⟩, eqO_ok h5, eqO_ok h6, of_decide_eq_true h7, of_decide_eq_true h8⟩
theorem ClsF.ty {K : PySem.W.Frag} {C a dx : Addr} {H : Hp} {fs : List (Str × V)} (c : ClsF K C) (h : H a = some (.ins C dx fs)) : TyX K H (.ref a) (.ref C) := .base (.ins h c.cls c.ca c.cn c.ct c.cm)
def noAtB (K : PySem.W.Frag) (C : Addr) (fs : List Str) : Bool := fs.all fun f => eqO (PySem.W.findIn K (.ref C) f) (some none)
theorem noAtB_ok {K : PySem.W.Frag} {C : Addr} {fs : List Str} (h : noAtB K C fs = true) {f : Str} (hf : f ∈ fs) : NoAttr K C f := eqO_ok (List.all_eq_true.mp h f hf)
/-- the constant f of the class is the text v -/
def conB (K : PySem.W.Frag) (C : Addr) (f : Str) (v : V) : Bool := (match PySem.W.findIn K (.ref C) f with
  | some (some u) => relB v u && decide (PySem.W.specialIn K u "__get__" = some none)
  | _ => false) && !PySem.W.copiedNames.contains f
theorem conB_ok {K : PySem.W.Frag} {C : Addr} {f : Str} {v : V} (h : conB K C f v = true) : ∃ u, Con K C f v u := by
  obtain ⟨h1, h2⟩ := ba h
  cases e : PySem.W.findIn K (.ref C) f with
  | none => rw [e] at h1; cases h1
  | some r =>
    rw [e] at h1
    cases r with
    | none => cases h1
    | some u =>
      obtain ⟨h3, h4⟩ := ba h1
      exact ⟨u, e, relB_ok h3, of_decide_eq_true h4, by simpa using h2⟩
end E

/-! methods found by the object's class; own in -/
namespace E
open PySem PySem.Spec PyProof.Rows L2 He
section
variable {X : Cx} {k j : Nat} {cs : List Addr} {m : Str} {sp : Sp} {o e : Expr} {es : List Expr} {apos pos : Pos} {ta : TE} {t : TA} {pl : Sem Bool} {g : Addr} {Er : XK} {CX : CXT}
end
section
variable {K : PySem.W.Frag} {σ : L2.St} {H : Hp} {Q : VK} {ta : TE} {t : TA} {m : Str} {cs : List Addr} {sp : Sp} {f : Str}
end
/-! a method that says super: its function object -/
abbrev FnV : Type := Option (Str × Str × Arguments × FuncBody × Scope × Addr × Addr)
def fnVt (K : PySem.W.Frag) (a : Addr) : FnV := match K.lookup a with
  | some ⟨_, _, .func fd, _⟩ => some (fd.name, fd.qualname, fd.params, fd.body, fd.scope, fd.globals, fd.builtins)
  | _ => none
/-- the closure is the class at D; the code's file is fl -/
def supFB (K : PySem.W.Frag) (a D : Addr) (fl qual : Str) : Bool := (PySem.W.clsIn K D).isSome && (match K.lookup a with
  | some ⟨_, _, .func fd, _⟩ => decide (fd.defaults = Value.none) && ((match fd.closure with
    | [(x, c)] => decide (x = "__class__") && (match K.lookup c with
      | some ⟨_, _, .cell (some (.ref E)), _⟩ => decide (E = D)
      | _ => false)
    | _ => false) && (match fd.code with
    | .ref cda => PySem.W.codeIn K (.ref cda) qual && (match K.lookup cda with
      | some ⟨_, _, .fields vs, _⟩ => (match (vs : Array Value)[2]? with
        | some (Value.str file _) => fl == file
        | _ => false)
      | _ => false)
    | _ => false))
  | _ => false)
end E

/-! own exceptions over any of four built-in ones, their __init__ walked as a def -/
namespace E
open PySem PySem.Spec PyProof.Rows L2 He
open Builtin Builtin.ObjectAttr
abbrev tlV : List Value := [.type "ValueError", .type "Exception", .type "BaseException", .type "object"]
abbrev tlO : List Value := [.type "OverflowError", .type "ArithmeticError", .type "Exception", .type "BaseException", .type "object"]
abbrev tlL : List Value := [.type "LookupError", .type "Exception", .type "BaseException", .type "object"]
abbrev tlR : List Value := [.type "RuntimeError", .type "Exception", .type "BaseException", .type "object"]
/-- what is known of a base -/
structure BaseF (B newId initId : String) (bm : List Value) : Prop where
  eb : ExcBaseFacts B newId initId bm
  sf : StoreFacts B bm "object.__setattr__" "object"
theorem base_V : BaseF "ValueError" "ValueError.__new__" "ValueError.__init__" tlV := ⟨F.excBase_ValueError, F.store_ValueError⟩
theorem base_O : BaseF "OverflowError" "OverflowError.__new__" "OverflowError.__init__" tlO := ⟨F.excBase_OverflowError, F.store_OverflowError⟩
theorem base_L : BaseF "LookupError" "LookupError.__new__" "LookupError.__init__" tlL := ⟨F.excBase_LookupError, F.store_LookupError⟩
theorem base_R : BaseF "RuntimeError" "RuntimeError.__new__" "RuntimeError.__init__" tlR := ⟨F.excBase_RuntimeError, F.store_RuntimeError⟩
structure OexB (K : PySem.W.Frag) (C : Addr) : Prop where
  ex : ∃ B newId initId bm, BaseF B newId initId bm ∧ PySem.W.excInitIn K C bm newId = true ∧ PySem.W.excOver K C bm = true
  hd : ∃ cd, PySem.W.clsIn K C = some cd ∧ cd.hasDict = true
  sa : PySem.W.findIn K (.ref C) "__setattr__" = some (some (.builtin "object.__setattr__"))
  exC : PySem.W.subIn K (.ref C) (.type "BaseException") = some true
  tyC : PySem.W.typeIn K (.ref C) = some (.type "type")
  kC : PySem.W.keepIn K (.ref C) = true
section
variable {X : Cx} {pins : List (Addr × Obj)} {σ : L2.St} {H : Hp} {s : Shared} {a C dx : Addr} {f : Str} {y : V} {u : Value} {fs : List (Str × V)} {Q : Unit → Shared → Prop} {Er : Value → Shared → Prop} {A : Around}
theorem ostB_new (T : OexB X.K C) (I : Inv X pins σ H s) (e : H a = some (exo a C none)) (hno : NoAttr X.K C f) (ry : RelV y u)
    (h : ∀ dx s', H dx = none → dx ≠ a → Inv X pins σ (upd (upd H dx (exd dx [(f, y)])) a (exo a C (some dx))) s' → Q () s') : wpAny (model X.prog X.w) A (setAttr (.ref a) f u) Q Er s := by
  obtain ⟨B, newId, initId, bm, bf, hin, hov⟩ := T.ex
  obtain ⟨cd, hcd, hh⟩ := T.hd
  obtain ⟨t1, ho⟩ := exo_at I.hok e
  obtain ⟨hp, g, d, t, os⟩ := s
  have J : PySem.W.InstAt hp a ({ cls := .ref C, dict := none, data := .fields #[.ref t1, .none, .none, .none, .bool false, .none] } : Obj) C none := ⟨ho, rfl, rfl, trivial⟩
  have hxs : a ≠ hp.objs.size := Nat.ne_of_lt (Heap.lt_size ho)
  have hcls : PySem.W.Looks (model X.prog X.w) hp (classData C) cd := PySem.W.looks_clsIn I.kIn hcd
  refine PySem.W.set_plain I.kIn J T.sa ?_
  refine PySem.W.osa_openX bf.sf I.kIn J hov hno.taker fun b => ?_
  show wpAny _ _ (storeInOwnDict (.ref a) (.ref C) _ f u b) _ _ _
  have key : ∀ (h' : Heap) (tk' : Nat) (dx : Addr), (∀ b o, b ≠ a → hp.get? b = some o → h'.get? b = some o) → hp.objs.size ≤ dx → dx ≠ a → h'.get? a = some ({ cls := .ref C, dict := some dx, data := .fields #[.ref t1, .none, .none, .none, .bool false, .none] } : Obj) →
      h'.Ns1 dx (fun z => if z = f then some u else none) → Q () ⟨h', g, d, tk', os⟩ := by
    intro h' tk' dx k dn dne hx hn
    have hnd : H dx = none := I.hok.fresh dn
    have nd : ∀ {b : Addr} {o : Obj}, hp.get? b = some o → b ≠ dx := fun {b o} q => Nat.ne_of_lt (Nat.lt_of_lt_of_le (Heap.lt_size q) dn)
    have na : ∀ {b : Addr}, H b = none → b ≠ a := fun {b} n z => by
      rw [z, e] at n
      cases n
    have Un1 : Un X.fs [] H (upd (upd H dx (exd dx [(f, y)])) a (exo a C (some dx))) hp h' := {
      keep := fun b o q n _ _ => k b o (na n) q
      slot := fun b o q n _ _ => ⟨o.slots, k b o (na n) q⟩
      free := fun b o q n _ => by rw [upd_ne (na n), upd_ne (nd q)]; exact n
      there := fun b o q _ => by
        by_cases hb : b = a
        · exact ⟨_, by rw [hb]; exact hx⟩
        · exact ⟨o, k b o hb q⟩
      tups := fun b xs q => by rw [upd_ne (at_ne e q exo_tup), upd_ne (ne_of_none q hnd)]; exact q
      frzs := fun b o v q => by rw [upd_ne (at_ne e q exo_frz), upd_ne (ne_of_none q hnd)]; exact q
      tbls := fun b ps q => ⟨#[], by rw [upd_ne (at_ne e q exo_tbl), upd_ne (ne_of_none q hnd), q]; simp⟩ }
    refine h dx _ hnd dne (I.un (t' := tk') Un1 fun b o q => ?_)
    by_cases hb : b = a
    · subst hb
      rw [upd_same] at q
      cases q
      exact exo_ok hx
    · rw [upd_ne hb] at q
      by_cases hd : b = dx
      · subst hd
        rw [upd_same] at q
        cases q
        exact exd_ok hn (relO_put (fs := []) ry fun g => True.intro)
      · rw [upd_ne hd] at q
        exact (I.hok b o q).stay (fun c v hc z => k c v (by
            rcases hc with hc | hc
            · rw [hc]
              exact hb
            · exact at_ne e hc exo_own) z)
          (fun c hc => by rw [upd_ne (at_ne e hc exo_own), upd_ne (ne_of_none hc hnd)]; exact hc) (fun c xs hc => by rw [upd_ne (at_ne e hc exo_tup), upd_ne (ne_of_none hc hnd)]; exact hc)
  obtain ⟨nm, bs, mro, ns, qn, hd, sn, sb, ab, col, del⟩ := cd
  dsimp only at hh
  subst hh
  unfold storeInOwnDict ownDictForStores
  repeat (first | with_reducible refine PySem.HandSPX.store_in_new ?_ ?_ | with_reducible refine wpAny_loadPart_at ho ?_ | with_reducible refine hcls.at ?_ | wp_step)
  · exact ⟨_, #[], _, (Heap.get?_update_ne _ _ _ _ hxs.symm).trans (Heap.get?_push_at rfl rfl), rfl, fun e he => absurd he (by simp), fun _ => rfl⟩
  · intro h' tk' hn' hs
    have hx₁ : (hp.push { cls := .type "dict", data := .dict #[] }).get? a = some ({ cls := .ref C, dict := none, data := .fields #[.ref t1, .none, .none, .none, .bool false, .none] } : Obj) := Heap.get?_push_of_some _ ho
    refine key h' tk' hp.objs.size (fun b o hb ho => ?_) (Nat.le_refl _) hxs.symm ?_ hn'
    · exact (hs.2 b (Nat.ne_of_lt (Heap.lt_size ho))).trans ((Heap.get?_update_ne _ _ _ _ hb).trans (Heap.get?_push_of_some _ ho))
    · exact (hs.2 a hxs).trans (Heap.get?_update_self _ hx₁ rfl)
theorem ostB_old (T : OexB X.K C) (I : Inv X pins σ H s) (e : H a = some (exo a C (some dx))) (ed : H dx = some (exd dx fs)) (hl : fs.length ≤ 900) (hno : NoAttr X.K C f) (ry : RelV y u)
    (h : ∀ s', Inv X pins σ (upd H dx (exd dx ((f, y) :: fs))) s' → Q () s') : wpAny (model X.prog X.w) A (setAttr (.ref a) f u) Q Er s := by
  obtain ⟨B, newId, initId, bm, bf, hin, hov⟩ := T.ex
  obtain ⟨cd, hcd, hh⟩ := T.hd
  obtain ⟨t1, ho⟩ := exo_at I.hok e
  obtain ⟨mA, hns, rel⟩ := exd_at I.hok ed
  have hw := within_of rel
  obtain ⟨hp, g, d, t, os⟩ := s
  obtain ⟨oD, _, _, hoD, _, _⟩ := hns.count hw
  have J : PySem.W.InstAt hp a ({ cls := .ref C, dict := some dx, data := .fields #[.ref t1, .none, .none, .none, .bool false, .none] } : Obj) C (some oD) := ⟨ho, rfl, rfl, hoD⟩
  have hcls : PySem.W.Looks (model X.prog X.w) hp (classData C) cd := PySem.W.looks_clsIn I.kIn hcd
  refine PySem.W.set_plain I.kIn J T.sa ?_
  refine PySem.W.osa_openX bf.sf I.kIn J hov hno.taker fun b => ?_
  show wpAny _ _ (storeInOwnDict (.ref a) (.ref C) _ f u b) _ _ _
  have key : ∀ h' tk', (∀ b o, b ≠ dx → hp.get? b = some o → h'.get? b = some o) → h'.Ns1 dx (fun z => if z = f then some u else mA z) → Q () ⟨h', g, d, tk', os⟩ := by
    intro h' tk' k hn
    have hd : ∃ o, h'.get? dx = some o := by
      obtain ⟨o, _, _, e', _⟩ := hn
      exact ⟨o, e'⟩
    exact h _ (I.write (t' := tk') (x := dx) (e := dx) (o := exd dx ((f, y) :: fs)) (by rw [ed]; exact True.intro) (.inl rfl) k hd (exd_ok hn (relO_put ry rel)))
  obtain ⟨nm, bs, mro, ns, qn, hd, sn, sb, ab, col, del⟩ := cd
  dsimp only at hh
  subst hh
  unfold storeInOwnDict ownDictForStores
  repeat (first | with_reducible refine PySem.OEX.store_in_old hns hw (by rw [List.length_map]; omega) ?_ | with_reducible refine wpAny_loadPart_at ho ?_ | with_reducible refine hcls.at ?_ | wp_step)
  intro h' tk' hn' hs
  exact key h' tk' (fun b o hb ho => (hs.2 b hb).trans ho) hn'
end
/-- self.f = e, self an exception that is being made -/
def tOsB (K : PySem.W.Frag) (f : Str) (to te : TE) : TS := fun D σ H => te σ H fun y H1 => to σ H1 fun x H2 => ∃ a C : Addr, x = .ref a ∧ OexB K C ∧ NoAttr K C f ∧
  ((H2 a = some (exo a C none) ∧ ∀ dx, H2 dx = none → dx ≠ a → D.nx σ (upd (upd H2 dx (exd dx [(f, y)])) a (exo a C (some dx)))) ∨
    ∃ (dx : Addr) (fs : List (Str × V)), H2 a = some (exo a C (some dx)) ∧ H2 dx = some (exd dx fs) ∧ fs.length ≤ 900 ∧ D.nx σ (upd H2 dx (exd dx ((f, y) :: fs))))
section
variable {X : Cx} {o e : Expr} {es : List Expr} {to te : TE} {ta : TA} {f : Str} {p p' p1 p2 pos : Pos}
theorem ps_osB (ho : PE X o to) (he : PE X e te) (hs : swapsWith e (some (.Attribute o f p')) pos.line X.env = pure false := by rfl) : PS X (.Assign [.Attribute o f p'] e pos) (tOsB X.K f to te) := by
  refine ⟨fun pins s σ H D I h => ?_⟩
  refine plainObj_wpAny_Assign_Attribute (thn (he.run pins s σ H _ I h) fun v s1 ⟨y, H1, I1, r1, q1⟩ => thn (ho.run pins s1 σ H1 _ I1 q1) fun u s2 ⟨x, H2, I2, r2, a, C, ex, T, hno, q⟩ => ?_) hs
  subst ex
  obtain rfl : u = Value.ref a := r2
  rcases q with ⟨ea, q⟩ | ⟨dx, fs, ea, ed, hl, q⟩
  · exact ostB_new T I2 ea hno r1 fun dx s' n ne J => ⟨σ, _, J, q dx n ne⟩
  · exact ostB_old T I2 ea ed hl hno r1 fun s' J => ⟨σ, _, J, q⟩
/-- what the making leaves: the context is None -/
theorem mk_endN {X : Cx} {pins : List (Addr × Obj)} {σ : L2.St} {H1 H2 : Hp} {Q : XK} {hp hp2 h2 : Heap} {g1 g2 : Array GenState} {d1 d2 : Drawn} {t1 t2 : Nat} {os1 os2 : OsState} {a C d : Addr} {fs : List (Str × V)} (T : Raises X (.ref C)) (I1 : Inv X pins σ H1 ⟨hp, g1, d1, t1, os1⟩)
    (ha : hp.objs.size ≤ a) (k : ∀ b o, hp.get? b = some o → hp2.get? b = some o) (un : Un (frs X.stack) [] (upd H1 a (exo a C none)) H2 hp2 h2) (hok : HOk X.prog X.w H2 h2) (ho : os2 = os1) (hb : AllBare g2)
    (ea : H2 a = some (exo a C (some d))) (ed : H2 d = some (exd d fs)) (hd1 : H1 d = none) (q : Q (.ref C) (some d) (upd (del H2 a) d (.xd fs))) : L2N.MkP X pins σ Q (.ref a) ⟨h2, g2, d2, t2, os2⟩ := by
  obtain ⟨t0, G, J, kG, ge, hoe, na⟩ := mk_end0 (d2 := d2) (t2 := t2) I1 ha k un hok ho hb ea ed hd1
  exact ⟨a, _, _, ⟨G, g2, d2, t2, os2⟩, _, .ref C, some d, rfl, J, kG, ge, hoe, ⟨rfl, rfl, fun vs e => by cases e; rfl⟩, rfl, rfl, na, rfl, hb, T, q⟩
/-- C(e, ..): an own exception -/
theorem pmk_oexB {CX : CXT} {x : Str} {C fI : Addr} {k : Nat} {fd : FuncData} {ps : List Str} {sp : Sp} {ds : List Value} {dvs : List V} (T : OexB X.K C) (iC : PySem.W.findIn X.K (.ref C) "__init__" = some (some (.ref fI))) (tI : PySem.W.typeIn X.K (.ref fI) = some (.type "function"))
    (F1 : FnOk X.prog X.w X.K X.mg X.base CX k fI fd ps sp) (hr : Room (k + 1) X.A) (hb : Binds X.K fd ps ds) (hd : Vals dvs ds) (hx : Passes CX X (fun _ _ _ => False)) (hg : Gl X x) (hm : X.mg x = some (.ref C)) (ha : PA X (e :: es) ta)
    (hdb : (x == ("__debug__" : Str)) = false := by decide) (he : starEach (e :: es) X.env = (false, eval e X.env) :: starEach es X.env := by rfl) (hpl : (backTo pos (starEach es X.env)).any (·.1) = false := by rfl) :
    L2N.PMk X (.Call (.Name x p) (e :: es) [] pos) (tMkO C sp dvs ta) := by
  intro pins s σ H Q I h
  obtain ⟨B, newId, initId, bm, bf, hin, hov⟩ := T.ex
  refine wpAny_Call_Name_kw (ld_glob I hg hm ?_ hdb)
  refine PySem.W.callWith_K (h₀ := X.base) I.ok.mod.kin T.kC (thn (ha.run pos pins s σ H _ I h) fun us s1 ⟨vs, H1, I1, r1, hz, q1⟩ => ⟨I1.kIn, ?_⟩) he hpl
  show wpAny _ _ (call (.ref C) us) _ _ _
  obtain ⟨hp, g, dr, tk, os⟩ := s1
  obtain ⟨nm, N, qn, bs, bm', hdct, sn, sub, ab, col, dd, k0, k1, k2, k3, k5, hC, hT⟩ := PySem.W.excInit_of I1.kIn hin
  have hsz : hp.objs.size ≤ hp.objs.size + 1 := Nat.le_succ _
  have hn : H1 (hp.objs.size + 1) = none := I1.hok.fresh hsz
  have hq := q1 (hp.objs.size + 1) hn
  have kk : ∀ b o, hp.get? b = some o → ((hp.push (PySem.W.kdv_tup us)).push (PySem.HandSPX.excO C hp.objs.size)).get? b = some o := fun b o e => Heap.get?_push_of_some _ (Heap.get?_push_of_some _ e)
  have hget : ((hp.push (PySem.W.kdv_tup us)).push (PySem.HandSPX.excO C hp.objs.size)).get? (hp.objs.size + 1) = some (PySem.HandSPX.excO C hp.objs.size) := by heap_get
  have I2 : Inv X pins σ (upd H1 (hp.objs.size + 1) (exo (hp.objs.size + 1) C none)) ⟨(hp.push (PySem.W.kdv_tup us)).push (PySem.HandSPX.excO C hp.objs.size), g, dr, tk, os⟩ :=
    I1.laid (t' := tk) (a := hp.objs.size + 1) (o := exo (hp.objs.size + 1) C none) (h' := (hp.push (PySem.W.kdv_tup us)).push (PySem.HandSPX.excO C hp.objs.size)) kk hsz (exo_ok hget)
  have r2 : Vals (V.ref (hp.objs.size + 1) :: (vs ++ dvs)) (Value.ref (hp.objs.size + 1) :: (us ++ ds)) := .cons rfl (r1.append hd)
  have hl : (Value.ref (hp.objs.size + 1) :: us ++ ds).length = ps.length := by
    have e := r2.length
    rw [F1.len _ _ _ _ hq] at e
    exact e.symm
  have hus : us.length ≤ sizeLine := by
    rw [← Paired.length r1, sizeLine_eq]
    omega
  refine wpAny_call (PySem.HandSPX.call_own bf.eb hT hC (PySem.W.looks_findIn I1.kIn iC) (fun self => PySem.W.bind_fn I1.kIn self tI) hus
    (codeAny_mono (F1.run _ X.stack _ _ ⟨Value.ref (hp.objs.size + 1) :: us, []⟩ (Value.ref (hp.objs.size + 1) :: (us ++ ds)) _ _ (fun _ _ _ => False) (hr.make C us []) (I2.env0.make C us []) (hb _ (Value.ref (hp.objs.size + 1) :: us) I2.kIn hl) r2 hq) fun r s' hq' => ?_))
  cases r with
  | error er => exact hx pins σ _ _ er s' I2 hq'
  | ok fl =>
    cases fl with
    | ret u =>
      obtain ⟨v, H2, os2, bare2, un2, hok2, rv, ev, d, fs, ea, ed, hd1, q2⟩ := hq'
      subst ev
      obtain ⟨h2, g2, d2, t2, os'⟩ := s'
      exact ⟨rv, mk_endN (raises_own T.exC T.tyC) I1 hsz kk un2 hok2 os2 bare2 ea ed hd1 q2⟩
    | next => exact False.elim hq'
    | brk => exact False.elim hq'
    | cont => exact False.elim hq'
end
end E

/-! several clauses: except C as n -/
namespace E
open PySem PySem.Spec PyProof.Rows L2 He
abbrev Cl := Value × Nat × (Addr → Value → Option Addr → TS)
/-- the ends of a clause's suite: the name in slot i goes -/
def endsI (i : Nat) (D : Ends) : Ends := { nx := fun σ' H' => D.nx (σ'.set i none) H', rt := D.rt, bk := fun σ' H' => D.bk (σ'.set i none) H', ct := fun σ' H' => D.ct (σ'.set i none) H' }
inductive HdsA (X : Cx) : List ExceptHandler → List Cl → Prop
  | nil : HdsA X [] []
  | cons {x n : Str} {c : Value} {i : Nat} {ts : Addr → Value → Option Addr → TS} {b₀ : Stmt} {suite : List Stmt} {np pos' : Pos} {hds : List ExceptHandler} {l : List Cl} (hc : Names X x c) (hi : X.N[i]? = some n) (hln : X.env.kindOf n = some .local)
      (hsu : ∀ (a : Addr) (oe : Obj) (cls : Value) (d : Option Addr) (pn : List (Addr × Obj)), L2N.Zn cls d oe → (∃ vs, oe.data = .fields vs) → PSs (X.suite a ((a, oe) :: pn)) (b₀ :: suite) (ts a cls d)) (r : HdsA X hds l) :
      HdsA X (.ExceptHandler (some (.Name x np)) (some n) (b₀ :: suite) pos' :: hds) ((c, i, ts) :: l)
section
variable {X : Cx} {body : List Stmt} {h₀ : ExceptHandler} {hds : List ExceptHandler} {l : List Cl} {pos : Pos} {tb : WX → TS} {Wout : WX}
end
end E

namespace PySem.W
open PySem PySem.Spec PySem.Calls PyProof.Rows
section
variable {prog : Program} {w : World} {A : Around} {Er : Value → Shared → Prop} {s : Shared} {K : Frag} {x D : Addr} {ox : Obj} {od : Obj}
/-- e.__class__ of an own exception that has its dict -/
theorem kin_classD {Q : Option Value → Shared → Prop} (hga : findIn K (.ref D) "__getattribute__" = some (some (.builtin "BaseException.__getattribute__"))) (hgt : findIn K (.ref D) "__getattr__" = some none) (hsub : subIn K (.ref D) (.type "BaseException") = some true)
    (hdct : hasDictIn K D = true) (ha : findIn K (.ref D) "__class__" = some (some (.builtin "object.__class__")))
    (hn : specialIn K (.builtin "object.__class__") "__get__" = some (some (.builtin "getset_descriptor.__get__"))) (htk : takesIn K (.builtin "object.__class__") = some true) (hm : mroIn K D (.type "object") = some true)
    (X : K.In s.heap) (I : InstAt s.heap x ox D (some od)) (h : Q (some (.ref D)) { s with toks := s.toks + 1 }) : wpAny (model prog w) A (getAttr? (.ref x) "__class__") Q Er s := by
  have hf : findObj K D (some od) "__class__" = some (.bind (.builtin "getset_descriptor.__get__") (.builtin "object.__class__")) := findObj_data (by obtain ⟨cd, hc, _⟩ := any_some hdct; rw [hc]; rfl) ha hn htk
  obtain ⟨hp, g, d, t, os⟩ := s
  have L0 := I.type (M := model prog w)
  have L1 := looks_findIn (M := model prog w) X hga
  have L2 := looks_findIn (M := model prog w) X hgt
  have L3 := looks_find (M := model prog w) X I hf
  have sub : Looks (model prog w) hp (isInstance (.ref x) (.type "BaseException")) true := L0.andThen (looks_subIn X hsub)
  have hx2 : (Value.builtin "BaseException.__getattribute__" == Value.builtin "object.__getattribute__") = false := by decide +kernel
  unfold getAttr? getAttrBy? getAttrBy
  refine wpAny_bind (wpAny_mkText (wpAny_bind (wpAny_attempt (wpAny_holding (wpAny_bind (L0.at (wpAny_bind (L1.at ?_))))))))
  show wpAny _ _ (if (onTheHeap (Value.ref D) && Value.builtin "BaseException.__getattribute__" == Value.builtin "object.__getattribute__") = true then _ else _) _ _ _
  rw [hx2, Bool.and_false, if_neg Bool.false_ne_true]
  unfold getAttrByItsOwn hookBefore
  refine wpAny_bind ?_
  rw [if_pos (show onTheHeap (Value.ref D) = true from rfl)]
  refine L2.at ?_
  refine wpAny_bind (wpAny_attempt (wpAny_holding ?_))
  unfold callGetattribute
  rw [if_neg (show ¬ ((false && onTheHeap (Value.builtin "BaseException.__getattribute__")) = true) from Bool.false_ne_true)]
  unfold boundAndCalled
  rw [PySem.F.excAttr_ValueError.ga.bind (.ref x)]
  refine wpAny_bind (wpAny_pure ?_)
  show wpAny _ _ (call (.builtin "BaseException.__getattribute__") [.ref x, .str "__class__" t]) _ _ _
  refine wpAny_call (codeAny_call_builtin PySem.F.excAttr_ValueError.ga.plain PySem.F.entry_bexc_ga ?_)
  refine @check_slot (model prog w) _ _ ⟨hp, g, d, t + 1, os⟩ "BaseException.__getattribute__" "BaseException" "__getattribute__" (.ref x) [.str "__class__" t] [] _ (by decide +kernel) (by decide +kernel) sub (PySem.F.args_bexc_ga (.ref x) (.str "__class__" t)) ?_
  unfold Builtin.«object.__getattribute__»
  refine wpAny_bind (wpAny_of_eq (a := ((Value.ref x : Value), [Value.str "__class__" t])) (by first | rfl | (simp only [slotArgs]; rfl)) ?_)
  refine wpAny_bind (wpAny_pure (wpAny_bind (L0.at (wpAny_bind (L3.at ?_)))))
  show wpAny _ _ (holding [Value.builtin "object.__class__"] (call (.builtin "getset_descriptor.__get__") [.builtin "object.__class__", .ref x, .ref D]) >>= ret) _ _ _
  refine wpAny_bind (wpAny_holding (wpAny_call (class_get (s := ⟨hp, g, d, t + 1, os⟩) (ox := ox) (od := some od) X I hm ?_)))
  refine wpAny_pure ?_
  show wpAny _ _ (handedOut (.ref D)) _ _ _
  rw [handedOut_of (v := .ref D) rfl]
  first
    | exact wpAny_pure (wpAny_pure h)
    | exact wpAny_pure h
    | exact wpAny_pure (wpAny_bind (wpAny_pure (wpAny_pure h)))
theorem kitx_excD (C : L2.ExcC K D) : KitX K (.ref x) (.ref D) (fun h => InstAt h x ox D (some od)) where
  ty := fun _ _ _ I => I.type
  it := fun _ _ X _ => by
    obtain ⟨cdD, hcD, _⟩ := any_some C.hd
    unfold clsIn at hcD
    split at hcD
    · rename_i c' d' cd' sl' ho
      intro A' Q' E' s' k q
      unfold isType loadHead
      exact wpAny_bind (wpAny_loadPart (k _ _ (X _ _ ho)) (wpAny_pure q))
    · cases hcD
  ne := (handS_kitx_exc (x := x) (ox := ox) C.hg C.hk C.hs C.hd C.ha C.hn C.ht C.hm).ne
  ca := fun X I k => kin_classD C.hg C.hk C.hs C.hd C.ha C.hn C.ht C.hm X I k
end
end PySem.W

namespace E
open PySem PySem.Spec PyProof.Rows L2 He
/-- isinstance(e, c): e the exception that the suite holds, of the own class at D, its dict at dd -/
def rIsEd (K : PySem.W.Frag) (a : Addr) (cls : Value) (d : Option Addr) : List V → Hp → VK → Prop := fun xs H Q => ∃ (c : V) (cv : Value) (b : Bool) (D dd : Addr) (fs : List (Str × V)), xs = [.ref a, c] ∧ cls = .ref D ∧ d = some dd ∧ H dd = some (.xd fs) ∧ ExcC K D ∧ (∀ u, RelV c u → u = cv) ∧ PySem.W.kitOne K (.ref D) cv = some b ∧ Q (.bl b) H
theorem call_isEd {X : Cx} {a : Addr} {oe : Obj} {cls : Value} {d : Option Addr} {pn : List (Addr × Obj)} (hz : Zc cls d oe) (hf : ∃ vs, oe.data = .fields vs) : CallR (X.suite a ((a, oe) :: pn)) (.builtin "isinstance") (rIsEd X.K a cls d) := by
  intro pins s σ H xs us Q I r h
  obtain ⟨c, cv, b, D, dd, fs, rfl, rfl, rfl, hdd, C, hcv, e, q⟩ := h
  obtain ⟨u1, u2, rfl, r1, r2⟩ := r.two
  cases (show u1 = Value.ref a from r1)
  have ec := hcv _ r2
  subst ec
  obtain ⟨hget, _⟩ := I.pin (a, oe) (List.mem_append.mpr (.inl List.mem_cons_self))
  obtain ⟨vs, hv⟩ := hf
  have hx : ObjOk X.prog X.w H s.heap dd (.xd fs) := I.hok dd _ hdd
  obtain ⟨mA, hns, hr⟩ := hx
  obtain ⟨od, ho, hl⟩ := lookIn_ns hns
  have J : PySem.W.InstAt s.heap a oe D (some od) := ⟨hget, hz.1, by unfold PySem.W.notCls; rw [hv] <;> rfl, by rw [hz.2]; exact ho⟩
  exact PySem.W.kia_one (PySem.W.kitx_excD C) I.kIn J e (fun z => nomatch z) fun tk => ⟨.bl b, H, I.kept (t' := tk) fun _ _ z => z, rfl, q⟩
end E

/-! raise C(..), C an own exception -/
namespace E
open PySem PySem.Spec PyProof.Rows L2 He
structure Exr (P : Program) (w : World) (K : PySem.W.Frag) (mg : Str → Option Value) (base : Heap) (k : Nat) (x : Str) (C : Addr) (sp : Sp) : Prop where
  ex : ∃ fI fd ps, OexB K C ∧ PySem.W.findIn K (.ref C) "__init__" = some (some (.ref fI)) ∧ PySem.W.typeIn K (.ref fI) = some (.type "function") ∧ FnOk P w K mg base CX0 k fI fd ps sp ∧ Binds K fd ps []
  hm : mg x = some (.ref C)
def tRaise (C : Addr) (sp : Sp) (W : WX) (ta : TA) : TS := fun _ σ H => tMkO C sp [] ta σ H fun cls d H' => W cls d σ H'
section
variable {X : Cx} {k j : Nat} {C : Addr} {x : Str} {sp : Sp} {p pos pos2 : Pos} {e : Expr} {es : List Expr} {ta : TA} {W : WX}
theorem ps_rx (c : Exr X.prog X.w X.K X.mg X.base k x C sp) (hr : Room j X.A) (hk : k + 1 ≤ j) (hc : X.calm = true) (tw : L2N.Takes X W) (hg : Gl X x) (ha : PA X (e :: es) ta)
    (hdb : (x == ("__debug__" : Str)) = false := by decide) (he : starEach (e :: es) X.env = (false, eval e X.env) :: starEach es X.env := by rfl) (hpl : (backTo pos (starEach es X.env)).any (·.1) = false := by rfl) :
    PS X (.Raise (some (.Call (.Name x p) (e :: es) [] pos)) none pos2) (tRaise C sp W ta) := by
  obtain ⟨fI, fd, ps, T, iC, tI, F, b⟩ := c.ex
  exact L2N.ps_raise hc tw (pmk_oexB T iC tI F (hr.mono hk) b .nil (fun _ _ _ _ _ _ _ h => h.elim) hg c.hm ha hdb he hpl)
end
/-- the class at C is an own exception over the base with this tail -/
def oexB (K : PySem.W.Frag) (C : Addr) (bm : List Value) (newId : String) : Bool := PySem.W.excInitIn K C bm newId && (PySem.W.excOver K C bm && ((PySem.W.clsIn K C).any (·.hasDict) && (eqO (PySem.W.findIn K (.ref C) "__setattr__") (some (some (.builtin "object.__setattr__"))) &&
  (decide (PySem.W.subIn K (.ref C) (.type "BaseException") = some true) && (decide (PySem.W.typeIn K (.ref C) = some (.type "type")) && PySem.W.keepIn K (.ref C))))))
theorem oexB_ok {K : PySem.W.Frag} {C : Addr} {B newId initId : String} {bm : List Value} (bf : BaseF B newId initId bm) (h : oexB K C bm newId = true) : OexB K C := by
  obtain ⟨h1, h⟩ := ba h
  obtain ⟨h2, h⟩ := ba h
  obtain ⟨h3, h⟩ := ba h
  obtain ⟨h4, h⟩ := ba h
  obtain ⟨h5, h⟩ := ba h
  obtain ⟨h6, h7⟩ := ba h
  obtain ⟨cd, hc, hd⟩ := PySem.W.any_some h3
  exact ⟨⟨B, newId, initId, bm, bf, h1, h2⟩, ⟨cd, hc, hd⟩, eqO_ok h4, of_decide_eq_true h5, of_decide_eq_true h6, h7⟩
def excCB (K : PySem.W.Frag) (D : Addr) : Bool := eqO (PySem.W.findIn K (.ref D) "__getattribute__") (some (some (.builtin "BaseException.__getattribute__"))) && (eqO (PySem.W.findIn K (.ref D) "__getattr__") (some none) && (decide (PySem.W.subIn K (.ref D) (.type "BaseException") = some true) && (PySem.W.hasDictIn K D &&
  (eqO (PySem.W.findIn K (.ref D) "__class__") (some (some (.builtin "object.__class__"))) && (eqO (PySem.W.specialIn K (.builtin "object.__class__") "__get__") (some (some (.builtin "getset_descriptor.__get__"))) && (decide (PySem.W.takesIn K (.builtin "object.__class__") = some true) && decide (PySem.W.mroIn K D (.type "object") = some true)))))))
theorem excCB_ok {K : PySem.W.Frag} {D : Addr} (h : excCB K D = true) : ExcC K D := by
  obtain ⟨h1, h⟩ := ba h
  obtain ⟨h2, h⟩ := ba h
  obtain ⟨h3, h⟩ := ba h
  obtain ⟨h4, h⟩ := ba h
  obtain ⟨h5, h⟩ := ba h
  obtain ⟨h6, h⟩ := ba h
  obtain ⟨h7, h8⟩ := ba h
  exact ⟨eqO_ok h1, eqO_ok h2, of_decide_eq_true h3, h4, eqO_ok h5, eqO_ok h6, of_decide_eq_true h7, of_decide_eq_true h8⟩
end E

/-! tuples of which the whole object is known: they have no dict (t.index wants it) -/
namespace F
open PySem PySem.Spec PyProof.Rows L2 Evl
/-- what stands at a has no dict -/
def NoD (K : PySem.W.Frag) (G : Hp) (a : Addr) : Prop := (∃ ob xs, G a = some (.frz ob (.tup xs)) ∧ ob.dict = none) ∨ ∃ ob, K.lookup a = some ob ∧ ob.dict = none
theorem NoD.mono {K : PySem.W.Frag} {G G' : Hp} {a : Addr} (e : Ex G G') (h : NoD K G a) : NoD K G' a := by
  rcases h with ⟨ob, u, h, d⟩ | h
  · exact .inl ⟨ob, u, e _ _ h, d⟩
  · exact .inr h
theorem NoD.new {K : PySem.W.Frag} {G : Hp} {a : Addr} {ob : Obj} {xs : List V} (d : ob.dict = none) : NoD K (upd G a (.frz ob (.tup xs))) a := .inl ⟨ob, xs, upd_same, d⟩
theorem sqt_new {K : PySem.W.Frag} {G : Hp} {a : Addr} {ob : Obj} {xs : List V} : SqT K (upd G a (.frz ob (.tup xs))) a xs := .inl (.inr ⟨ob, upd_same⟩)
/-- the new tuple -/
def tupO (its : List Value) : Obj := { cls := .type "tuple", data := .seq its.toArray }
theorem tup_ok {P : Program} {w : World} {H : Hp} {h : Heap} {xs : List V} {its : List Value} (hz : xs.length ≤ sizeLine) (r : Vals xs its) :
    ObjOk P w H (h.push (tupO its)) h.objs.size (.frz (tupO its) (.tup xs)) := ⟨Heap.get?_push_size _ rfl, hz, its, r, ⟨_, Heap.get?_push_size _ rfl, rfl, _, rfl⟩⟩
theorem tup_in {X : Cx} {pins : List (Addr × Obj)} {σ : L2.St} {H : Hp} {s : Shared} {xs : List V} {its : List Value} (I : Inv X pins σ H s) (hz : xs.length ≤ sizeLine) (r : Vals xs its) :
    Inv X pins σ (upd H s.heap.objs.size (.frz (tupO its) (.tup xs))) { s with heap := s.heap.push (tupO its) } := I.laid (t' := s.toks) (fun b u e => Heap.get?_push_of_some _ e) (Nat.le_refl _) (tup_ok hz r)
/-- what a new tuple gives -/
def NewT (H : Hp) (xs : List V) (Q : VK) : Prop := ∀ (p : Addr) (ob : Obj), H p = none → ob.dict = none → Q (.ref p) (upd H p (.frz ob (.tup xs)))
theorem NewT.ep {X : Cx} {pins : List (Addr × Obj)} {σ : L2.St} {H : Hp} {s : Shared} {xs : List V} {its : List Value} {Q : VK} (q : NewT H xs Q) (I : Inv X pins σ H s) (hz : xs.length ≤ sizeLine) (r : Vals xs its) :
    EP X pins σ Q (.ref s.heap.objs.size) { s with heap := s.heap.push (tupO its) } := ⟨.ref s.heap.objs.size, _, tup_in I hz r, rfl, q _ _ (I.hok.fresh (Nat.le_refl _)) rfl⟩
section
variable {X : Cx} {es : List Expr} {t : TA} {pos : Pos}
def tTupN (t : TA) : TE := fun σ H Q => t σ H fun xs H1 => xs.length ≤ sizeLine ∧ NewT H1 xs Q
theorem pe_tupN {x1} (h : PA X es t) : PE X (.Tuple es x1 pos) (tTupN t) := by
  refine ⟨fun pins s σ H Q I hq => ?_⟩
  refine wpAny_Tuple_spliced (thn (h.run pos pins s σ H _ I hq) fun us s1 ⟨xs, H1, I1, r, z, q⟩ => ⟨by rw [← r.length]; exact z, ?_⟩)
  exact q.ep I1 z r
/-- t + u -/
def rCatN (K : PySem.W.Frag) : R2 := fun x y H Q => ∃ a b xs ys, x = .ref a ∧ y = .ref b ∧ SqT K H a xs ∧ SqT K H b ys ∧ xs.length + ys.length ≤ sizeLine ∧
  (xs = [] → Q (.ref b) H) ∧ (xs ≠ [] → ys = [] → Q (.ref a) H) ∧ (xs ≠ [] → ys ≠ [] → NewT H (xs ++ ys) Q)
theorem op_catN : OpR X (binaryOp .Add) (rCatN X.K) := by
  intro pins s σ H x y v u Q I rx ry h
  obtain ⟨a, b, xs, ys, rfl, rfl, ha, hb, hz, q0, q1, q2⟩ := h
  by_cases hx : xs = []
  · subst hx
    exact op_catA pins s σ H _ _ v u Q I rx ry ⟨a, b, [], ys, rfl, rfl, ha, hb, hz, q0, fun z => absurd rfl z, fun z => absurd rfl z⟩
  · cases rx
    cases ry
    obtain ⟨its, r1, p1, _⟩ := I.tuple ha
    obtain ⟨its2, r2, p2, _⟩ := I.tuple hb
    refine HT.cat_tup p1 p2 (fun z => hx (r1.nil_iff.mp z)) (fun z => ⟨.ref a, H, I, rfl, q1 hx (r2.nil_iff.mp z)⟩) (fun z => ?_) (by rw [← r1.length, ← r2.length]; exact hz)
    exact (q2 hx (fun w => z (r2.nil_iff.mpr w))).ep I (by rw [List.length_append]; exact hz) (r1.append r2)
end
end F

/-! enumerate and zip whose pairs are known whole; t.index(x) -/
namespace F
open PySem PySem.Spec PyProof.Rows L2 Evl
def YldN (H : Hp) (v : V) (H' : Hp) (xs : List V) : Prop := ∃ T ob, v = .ref T ∧ H T = none ∧ ob.dict = none ∧ H' = upd H T (.frz ob (.tup xs))
def IteN (K : PySem.W.Frag) (a : Addr) : It :=
  ⟨(Ite K a).go, fun i H v H' => ∃ x, YldN H v H' [.int (i : Nat), x] ∧ ∀ xs, SqL K H a xs → xs[i]? = some x, (Ite K a).stop⟩
def iEnumN (K : PySem.W.Frag) (ta : TA) : TI := fun σ H R => ta σ H fun vs H1 => ∃ a xs, vs = [.ref a] ∧ SqL K H1 a xs ∧ R (IteN K a) H1
/-! zip of two tuples -/
/-! t.index(x), x there -/
end F

/-! The plain machine: deep values, cells, a total reading of each construct; and what it says of the abstract heap -/
namespace F
open PySem L2 Evl
/-- a value with all that hangs on it; lists and instances in it stand for good; cel n: the n-th cell -/
inductive D where
  | non | bl (b : Bool) | int (i : Int) | str (x : Str)
  | tup (xs : List D) | lst (xs : List D) | wls (xs : List D)
  | ins (c : Str) (fs : List (Str × D))
  | cel (n : Nat) | cls (c : Str) | ty (n : String)
  | dct (kvs : List (Key × D))
/-- what may still change -/
inductive C where
  | lst (xs : List D)
  | ins (c : Str) (fs : List (Str × D))
  | set (ks : List Key)
  | dct (kvs : List (Key × D))
  | dead
structure Exn where
  c : Str
  fs : List (Str × D)
abbrev Cells := List C
inductive Out (α : Type) where
  | ok (a : α) (cs : Cells)
  | exc (x : Exn) (cs : Cells)
  | no
abbrev EM (α : Type) := Cells → Out α
def rt {α : Type} (a : α) : EM α := fun cs => .ok a cs
def no {α : Type} : EM α := fun _ => .no
def bd {α β : Type} (m : EM α) (f : α → EM β) : EM β := fun cs => match m cs with
  | .ok a cs' => f a cs'
  | .exc x cs' => .exc x cs'
  | .no => .no
def wp {α : Type} (m : EM α) (cs : Cells) (Q : α → Cells → Prop) (E : Exn → Cells → Prop) : Prop := match m cs with
  | .ok a cs' => Q a cs'
  | .exc x cs' => E x cs'
  | .no => False
section
variable {α β : Type} {m : EM α} {f : α → EM β} {cs : Cells} {Q Q' : α → Cells → Prop} {R : β → Cells → Prop} {E E' : Exn → Cells → Prop}
theorem wp_bd : wp (bd m f) cs R E ↔ wp m cs (fun a cs' => wp (f a) cs' R E) E := by
  unfold wp bd
  cases m cs <;> exact Iff.rfl
theorem wp_rt {a : α} : wp (rt a) cs Q E ↔ Q a cs := Iff.rfl
theorem wp_imp (h : wp m cs Q E) (hQ : ∀ a cs', Q a cs' → Q' a cs') (hE : ∀ x cs', E x cs' → E' x cs') : wp m cs Q' E' := by
  unfold wp at h ⊢
  cases e : m cs with
  | ok a cs' => rw [e] at h; exact hQ _ _ h
  | exc x cs' => rw [e] at h; exact hE _ _ h
  | no => rw [e] at h; exact h
end
/-! ### slots -/
inductive Sl where
  | emp
  | val (d : D)
  | own (c : C)
  | me (d : D)
  | exn (x : Exn)
abbrev Loc := List Sl
abbrev XE := Loc → EM D
abbrev XB := Loc → EM Bool
abbrev XA := Loc → EM (List D)
inductive Fl where
  | nx (l : Loc) | ret (d : D) | bk (l : Loc) | ct (l : Loc) | ex (x : Exn) (l : Loc)
inductive SO where
  | go (f : Fl) (cs : Cells)
  | no
abbrev XS := Loc → Cells → SO
def wpS (r : SO) (Q : Fl → Cells → Prop) : Prop := match r with
  | .go f cs => Q f cs
  | .no => False
theorem wpS_imp {r : SO} {Q Q' : Fl → Cells → Prop} (h : wpS r Q) (k : ∀ f cs, Q f cs → Q' f cs) : wpS r Q' := by
  cases r with
  | go f cs => exact k _ _ h
  | no => exact h
/-! ### what it says of the heap -/
/-- the program, the world, what is written, the module's names -/
structure Sx where
  P : Program
  w : World
  K : PySem.W.Frag
  mg : Str → Option Value
/-- G: what stands for good; O: what this frame and its callers own; i: where the cells are -/
structure Wd where
  G : Hp
  O : Hp
  i : List Addr
mutual
inductive Rep (Z : Sx) (W : Wd) : V → D → Prop
  | non : Rep Z W .non .non
  | bl (b : Bool) : Rep Z W (.bl b) (.bl b)
  | int (i : Int) : Rep Z W (.int i) (.int i)
  | str {x : Str} (h : x.length ≤ sizeLine) : Rep Z W (.str x) (.str x)
  | tup {a : Addr} {xs : List V} {ds : List D} : SqT Z.K W.G a xs → RepA Z W xs ds → NoD Z.K W.G a → Rep Z W (.ref a) (.tup ds)
  | lst {a : Addr} {xs : List V} {ds : List D} : W.G a = some (.lst xs) → RepA Z W xs ds → Rep Z W (.ref a) (.lst ds)
  | wls {a : Addr} {xs : List V} {ds : List D} : SqL Z.K W.G a xs → RepA Z W xs ds → Rep Z W (.ref a) (.wls ds)
  | ins {a Cl dx : Addr} {fs : List (Str × V)} {ds : List (Str × D)} {c : Str} : Z.mg c = some (.ref Cl) → W.G a = some (.ins Cl dx fs) → RepF Z W fs ds → Rep Z W (.ref a) (.ins c ds)
  | cel {n : Nat} {a : Addr} : W.i[n]? = some a → Rep Z W (.ref a) (.cel n)
  | cls {c : Str} {Cl : Addr} : Z.mg c = some (.ref Cl) → Rep Z W (.ref Cl) (.cls c)
  | ty (n : String) : Rep Z W (.ty n) (.ty n)
  | dct {a : Addr} {vs : List (Key × V)} {ds : List (Key × D)} : W.G a = some (.dK vs) → RepK Z W vs ds → Rep Z W (.ref a) (.dct ds)
inductive RepA (Z : Sx) (W : Wd) : List V → List D → Prop
  | nil : RepA Z W [] []
  | cons {v : V} {vs : List V} {d : D} {ds : List D} : Rep Z W v d → RepA Z W vs ds → RepA Z W (v :: vs) (d :: ds)
inductive RepF (Z : Sx) (W : Wd) : List (Str × V) → List (Str × D) → Prop
  | nil : RepF Z W [] []
  | cons {f : Str} {v : V} {vs : List (Str × V)} {d : D} {ds : List (Str × D)} : Rep Z W v d → RepF Z W vs ds → RepF Z W ((f, v) :: vs) ((f, d) :: ds)
inductive RepK (Z : Sx) (W : Wd) : List (Key × V) → List (Key × D) → Prop
  | nil : RepK Z W [] []
  | cons {k : Key} {v : V} {vs : List (Key × V)} {d : D} {ds : List (Key × D)} : Rep Z W v d → RepK Z W vs ds → RepK Z W ((k, v) :: vs) ((k, d) :: ds)
end
/-- more is known -/
structure Le (W W' : Wd) : Prop where
  g : Ex W.G W'.G
  i : ∀ (n : Nat) (a : Addr), W.i[n]? = some a → W'.i[n]? = some a
theorem Le.refl (W : Wd) : Le W W := ⟨Ex.refl _, fun _ _ h => h⟩
theorem Le.trans {W W1 W2 : Wd} (a : Le W W1) (b : Le W1 W2) : Le W W2 := ⟨a.g.trans b.g, fun n x h => b.i n x (a.i n x h)⟩
section
variable {Z : Sx} {W W' : Wd}
mutual
theorem Rep.mono (e : Le W W') : ∀ {v : V} {d : D}, Rep Z W v d → Rep Z W' v d
  | _, _, .non => .non
  | _, _, .bl b => .bl b
  | _, _, .int i => .int i
  | _, _, .str h => .str h
  | _, _, .tup h r nd => .tup (ex_t e.g h) (RepA.mono e r) (nd.mono e.g)
  | _, _, .lst h r => .lst (e.g _ _ h) (RepA.mono e r)
  | _, _, .wls h r => .wls (ex_l e.g h) (RepA.mono e r)
  | _, _, .ins c h r => .ins c (e.g _ _ h) (RepF.mono e r)
  | _, _, .cel h => .cel (e.i _ _ h)
  | _, _, .cls h => .cls h
  | _, _, .ty n => .ty n
  | _, _, .dct h r => .dct (e.g _ _ h) (RepK.mono e r)
theorem RepA.mono (e : Le W W') : ∀ {vs : List V} {ds : List D}, RepA Z W vs ds → RepA Z W' vs ds
  | _, _, .nil => .nil
  | _, _, .cons r t => .cons (Rep.mono e r) (RepA.mono e t)
theorem RepF.mono (e : Le W W') : ∀ {vs : List (Str × V)} {ds : List (Str × D)}, RepF Z W vs ds → RepF Z W' vs ds
  | _, _, .nil => .nil
  | _, _, .cons r t => .cons (Rep.mono e r) (RepF.mono e t)
theorem RepK.mono (e : Le W W') : ∀ {vs : List (Key × V)} {ds : List (Key × D)}, RepK Z W vs ds → RepK Z W' vs ds
  | _, _, .nil => .nil
  | _, _, .cons r t => .cons (Rep.mono e r) (RepK.mono e t)
end
theorem RepA.length : ∀ {vs : List V} {ds : List D}, RepA Z W vs ds → vs.length = ds.length
  | _, _, .nil => rfl
  | _, _, .cons _ t => congrArg (· + 1) (RepA.length t)
theorem RepA.get : ∀ {vs : List V} {ds : List D} {n : Nat} {d : D}, RepA Z W vs ds → ds[n]? = some d → ∃ v, vs[n]? = some v ∧ Rep Z W v d
  | _, _, _, _, .nil, e => by simp at e
  | _, _, 0, _, .cons r _, e => by simp at e; subst e; exact ⟨_, rfl, r⟩
  | _, _, n + 1, d, .cons _ t, e => by
    obtain ⟨u, h1, h2⟩ := RepA.get (n := n) (d := d) t (by simpa using e)
    exact ⟨u, by simpa using h1, h2⟩
theorem RepA.append : ∀ {vs us : List V} {ds es : List D}, RepA Z W vs ds → RepA Z W us es → RepA Z W (vs ++ us) (ds ++ es)
  | _, _, _, _, .nil, s => s
  | _, _, _, _, .cons r t, s => .cons r (RepA.append t s)
theorem RepA.take : ∀ {vs : List V} {ds : List D} (n : Nat), RepA Z W vs ds → RepA Z W (vs.take n) (ds.take n)
  | _, _, 0, _ => .nil
  | _, _, _ + 1, .nil => .nil
  | _, _, n + 1, .cons r t => .cons r (RepA.take n t)
theorem RepA.drop : ∀ {vs : List V} {ds : List D} (n : Nat), RepA Z W vs ds → RepA Z W (vs.drop n) (ds.drop n)
  | _, _, 0, r => r
  | _, _, _ + 1, .nil => .nil
  | _, _, n + 1, .cons _ t => RepA.drop n t
theorem RepA.reverse : ∀ {vs : List V} {ds : List D}, RepA Z W vs ds → RepA Z W vs.reverse ds.reverse
  | _, _, .nil => .nil
  | _, _, .cons r t => by
    rw [List.reverse_cons, List.reverse_cons]
    exact (RepA.reverse t).append (.cons r .nil)
theorem RepA.set {v : V} {d : D} (r : Rep Z W v d) : ∀ {vs : List V} {ds : List D} (n : Nat), RepA Z W vs ds → RepA Z W (vs.set n v) (ds.set n d)
  | _, _, _, .nil => .nil
  | _, _, 0, .cons _ t => .cons r t
  | _, _, n + 1, .cons q t => .cons q (RepA.set r n t)
theorem RepF.lookup (f : Str) : ∀ {vs : List (Str × V)} {ds : List (Str × D)} {d : D}, RepF Z W vs ds → ds.lookup f = some d → ∃ v, vs.lookup f = some v ∧ Rep Z W v d
  | _, _, _, .nil, e => by simp at e
  | _, _, d, .cons (f := g) r t, e => by
    rw [List.lookup_cons] at e
    rw [List.lookup_cons]
    cases h : f == g with
    | true =>
      rw [h] at e
      have e' := Option.some.inj e
      subst e'
      exact ⟨_, rfl, r⟩
    | false =>
      rw [h] at e
      exact RepF.lookup f t e
theorem RepF.length : ∀ {vs : List (Str × V)} {ds : List (Str × D)}, RepF Z W vs ds → vs.length = ds.length
  | _, _, .nil => rfl
  | _, _, .cons _ t => congrArg (· + 1) (RepF.length t)
end
/-- an attribute stored -/
def putD (f : Str) (d : D) : List (Str × D) → List (Str × D)
  | [] => [(f, d)]
  | (g, x) :: r => if g = f then (g, d) :: r else (g, x) :: putD f d r
theorem RepF.put {Z : Sx} {W : Wd} {f : Str} {v : V} {d : D} (r : Rep Z W v d) : ∀ {vs : List (Str × V)} {ds : List (Str × D)}, RepF Z W vs ds → RepF Z W (putF f v vs) (putD f d ds)
  | _, _, .nil => .cons r .nil
  | _, _, .cons (f := g) q t => by
    unfold putF putD
    by_cases h : g = f
    · rw [if_pos h, if_pos h]
      exact .cons r t
    · rw [if_neg h, if_neg h]
      exact .cons q (RepF.put r t)
/-- a key of a dict or a set -/
def keyOf : D → Option Key
  | .int i => some (.inl i)
  | .str x => some (.inr x)
  | _ => none
def hasK (ks : List Key) (k : Key) : Bool := ks.any fun j => decide (j = k)
/-- what stands at a cell's address -/
def RepC (Z : Sx) (W : Wd) (a : Addr) (o : HO) : C → Prop
  | .lst ds => ∃ xs, o = .lst xs ∧ RepA Z W xs ds
  | .ins c ds => ∃ Cl dx fs, Z.mg c = some (.ref Cl) ∧ o = .ins Cl dx fs ∧ RepF Z W fs ds
  | .set ks => o = SetK Z.P Z.w a (hasK ks) ks.length
  | .dct kvs => ∃ vs, o = .dK vs ∧ RepK Z W vs kvs
  | .dead => True
theorem RepC.mono {Z : Sx} {W W' : Wd} (e : Le W W') {a : Addr} {o : HO} : ∀ {c : C}, RepC Z W a o c → RepC Z W' a o c
  | .lst _, ⟨xs, h, r⟩ => ⟨xs, h, r.mono e⟩
  | .ins _ _, ⟨Cl, dx, fs, m, h, r⟩ => ⟨Cl, dx, fs, m, h, r.mono e⟩
  | .set _, h => h
  | .dct _, ⟨vs, h, r⟩ => ⟨vs, h, r.mono e⟩
  | .dead, h => h
def RX (Z : Sx) (W : Wd) (cls : Value) (d : Option Addr) (x : Exn) : Prop := ∃ Cl dx fs, Z.mg x.c = some (.ref Cl) ∧ cls = .ref Cl ∧ d = some dx ∧ W.G dx = some (.xd fs) ∧ RepF Z W fs x.fs
theorem RX.mono {Z : Sx} {W W' : Wd} (e : Le W W') {cls : Value} {d : Option Addr} {x : Exn} (h : RX Z W cls d x) : RX Z W' cls d x := by
  obtain ⟨Cl, dx, fs, a, b, c, g, r⟩ := h
  exact ⟨Cl, dx, fs, a, b, c, e.g _ _ g, r.mono e⟩
/-- the heap holds what the machine says -/
structure S (Z : Sx) (W : Wd) (cs : Cells) (H : Hp) : Prop where
  g : Ex W.G H
  o : Ex W.O H
  dj : ∀ a u, W.O a = some u → W.G a = none
  len : W.i.length = cs.length
  nd : W.i.Nodup
  al : ∀ a ∈ W.i, ∃ u, H a = some u
  fo : ∀ a ∈ W.i, W.O a = none
  at_ : ∀ (n : Nat) (a : Addr) (c : C), W.i[n]? = some a → cs[n]? = some c → c ≠ .dead → W.G a = none ∧ ∃ u, H a = some u ∧ RepC Z W a u c
/-- e: the exception that the suite holds; me: where the instance stands that is being made -/
structure ZT where
  e : Option (Addr × Value × Option Addr) := none
  me : Option Addr := none
  n : Bool := false
theorem tracedZ_imp {h B : Heap} {a : Addr} {Z Z' : Obj → Prop} {fl : Value} (z : ∀ o, Z o → Z' o) (x : HandSPX.TracedZ h B a Z fl) : HandSPX.TracedZ h B a Z' fl := by
  obtain ⟨oe, vs, T, oT, ts, he, hz, r⟩ := x
  exact ⟨oe, vs, T, oT, ts, he, z _ hz, r⟩
theorem sky_imp {B h : Heap} {l : List Env} {a L : Addr} {Z Z' : Obj → Prop} (z : ∀ o, Z o → Z' o) (x : Sky B l a Z L h) : Sky B l a Z' L h := by
  rcases x with ⟨h1, h2, h3, oe, vs, he, hz, r⟩ | x | x
  · exact .inl ⟨h1, h2, h3, oe, vs, he, z _ hz, r⟩
  · exact .inr (.inl ⟨x.1, x.2.1, x.2.2.1, tracedZ_imp z x.2.2.2⟩)
  · exact .inr (.inr ⟨x.1, x.2.1, x.2.2.1, tracedZ_imp z x.2.2.2⟩)
theorem takes_n {X : Cx} {W : WX} (t : L2.Takes X W) : L2N.Takes X W := fun u s' ⟨a, B, sI, pins, σ, H, cls, d, e, I, nb, up, sky, na, os, ag, w⟩ =>
  t u s' ⟨a, B, sI, pins, σ, H, cls, d, e, I, nb, up, sky_imp (fun _ h => h.zc) sky, na, os, ag, w⟩
/-- what the context takes: any exception (n), or those alone whose context is None -/
def Tkz (z : ZT) (X : Cx) (W : WX) : Prop := cond z.n (L2.Takes X W) (L2N.Takes X W)
theorem Tkz.nn {z : ZT} {X : Cx} {W : WX} (t : Tkz z X W) : L2N.Takes X W := by
  unfold Tkz at t
  cases h : z.n with
  | true => rw [h] at t; exact takes_n t
  | false => rw [h] at t; exact t
theorem Tkz.of {z : ZT} {X : Cx} {W : WX} (h : z.n = false) (t : L2N.Takes X W) : Tkz z X W := by
  unfold Tkz
  rw [h]
  exact t
theorem Tkz.all {z : ZT} {X : Cx} {W : WX} (t : L2.Takes X W) : Tkz z X W := by
  unfold Tkz
  cases z.n with
  | true => exact t
  | false => exact takes_n t
def isIns : C → Bool
  | .ins _ _ => true
  | _ => false
/-- the slots: B the world at the entry -/
def SlOk (Z : Sx) (z : ZT) (B : Wd) (W : Wd) : Sl → Option (Option V) → Prop
  | .emp, _ => True
  | .val d, v => ∃ u, v = some (some u) ∧ Rep Z W u d
  | .own c, v => ∃ a o, v = some (some (.ref a)) ∧ W.O a = some o ∧ (B.O a = none ∧ (isIns c = true → z.me = some a)) ∧ RepC Z W a o c
  | .me d, v => ∃ a, v = some (some (.ref a)) ∧ z.me = some a ∧ Rep Z W (.ref a) d
  | .exn x, v => ∃ a cls d, z.e = some (a, cls, d) ∧ v = some (some (.ref a)) ∧ RX Z W cls d x
structure LR (Z : Sx) (z : ZT) (B : Wd) (W : Wd) (l : Loc) (σ : L2.St) : Prop where
  len : l.length = σ.length
  sl : ∀ (i : Nat) (s : Sl), l[i]? = some s → SlOk Z z B W s (σ[i]?)
  dj : ∀ (i j : Nat) (c c' : C) (a : Addr), l[i]? = some (.own c) → l[j]? = some (.own c') → σ[i]? = some (some (.ref a)) → σ[j]? = some (some (.ref a)) → i = j
  base : Le B W ∧ Ex B.O W.O
section
variable {Z : Sx} {z : ZT} {B : Wd} {W W' : Wd} {l : Loc} {σ : L2.St} {H : Hp} {cs : Cells}
theorem SlOk.mono (e : Le W W') (ho : W'.O = W.O) : ∀ {s : Sl} {v : Option (Option V)}, SlOk Z z B W s v → SlOk Z z B W' s v
  | .emp, _, _ => True.intro
  | .val _, _, ⟨u, h, r⟩ => ⟨u, h, r.mono e⟩
  | .own _, _, ⟨a, o, h, h2, h3, r⟩ => ⟨a, o, h, by rw [ho]; exact h2, h3, r.mono e⟩
  | .me _, _, ⟨a, h, h2, r⟩ => ⟨a, h, h2, r.mono e⟩
  | .exn _, _, ⟨a, cls, d, h, h2, r⟩ => ⟨a, cls, d, h, h2, r.mono e⟩
theorem LR.mono (e : Le W W') (ho : W'.O = W.O) (h : LR Z z B W l σ) : LR Z z B W' l σ := ⟨h.len, fun i s hs => (h.sl i s hs).mono e ho, h.dj, h.base.1.trans e, by rw [ho]; exact h.base.2⟩
/-! ### readings -/
def tE (Z : Sx) (z : ZT) (B : Wd) (f : XE) (E : Exn → Loc → Cells → Prop) : TE := fun σ H Q => ∃ W cs l, S Z W cs H ∧ LR Z z B W l σ ∧
  wp (f l) cs (fun d cs' => ∀ W' v H', Le W W' → W'.O = W.O → S Z W' cs' H' → Rep Z W' v d → Q v H') (fun x cs' => E x l cs')
def tB (Z : Sx) (z : ZT) (B : Wd) (f : XB) (E : Exn → Loc → Cells → Prop) : TT := fun σ H Q => ∃ W cs l, S Z W cs H ∧ LR Z z B W l σ ∧
  wp (f l) cs (fun b cs' => ∀ W' H', Le W W' → W'.O = W.O → S Z W' cs' H' → Q b H') (fun x cs' => E x l cs')
def tA (Z : Sx) (z : ZT) (B : Wd) (f : XA) (E : Exn → Loc → Cells → Prop) : TA := fun σ H Q => ∃ W cs l, S Z W cs H ∧ LR Z z B W l σ ∧
  wp (f l) cs (fun ds cs' => ∀ W' vs H', Le W W' → W'.O = W.O → S Z W' cs' H' → RepA Z W' vs ds → Q vs H') (fun x cs' => E x l cs')
def post (Z : Sx) (z : ZT) (B : Wd) (W : Wd) (E : Exn → Loc → Cells → Prop) (D : Ends) : Fl → Cells → Prop
  | .nx l', cs' => ∀ W' σ' H', Le W W' → S Z W' cs' H' → LR Z z B W' l' σ' → D.nx σ' H'
  | .bk l', cs' => ∀ W' σ' H', Le W W' → S Z W' cs' H' → LR Z z B W' l' σ' → D.bk σ' H'
  | .ct l', cs' => ∀ W' σ' H', Le W W' → S Z W' cs' H' → LR Z z B W' l' σ' → D.ct σ' H'
  | .ret d, cs' => ∀ W' v H', Le W W' → S Z W' cs' H' → Ex B.O W'.O → Rep Z W' v d → D.rt v H'
  | .ex x l', cs' => E x l' cs'
def tS (Z : Sx) (z : ZT) (B : Wd) (f : XS) (E : Exn → Loc → Cells → Prop) : TS := fun D σ H => ∃ W cs l, S Z W cs H ∧ LR Z z B W l σ ∧ wpS (f l cs) (post Z z B W E D)
/-- the wish of an exception -/
def wx (Z : Sx) (z : ZT) (B : Wd) (E : Exn → Loc → Cells → Prop) : WX := fun cls d σ H => ∃ W cs l x, S Z W cs H ∧ LR Z z B W l σ ∧ RX Z W cls d x ∧ E x l cs
end
abbrev sx (X : Cx) : Sx := ⟨X.prog, X.w, X.K, X.mg⟩
structure JE (X : Cx) (z : ZT) (e : Expr) (f : XE) : Prop where
  run : ∀ (B : Wd) (E : Exn → Loc → Cells → Prop), Tkz z X (wx (sx X) z B E) → PE X e (tE (sx X) z B f E)
structure JT (X : Cx) (z : ZT) (e : Expr) (f : XB) : Prop where
  run : ∀ (B : Wd) (E : Exn → Loc → Cells → Prop), Tkz z X (wx (sx X) z B E) → PT X e (tB (sx X) z B f E)
structure JW (X : Cx) (z : ZT) (e : Expr) (f : XB) : Prop where
  run : ∀ (B : Wd) (E : Exn → Loc → Cells → Prop), Tkz z X (wx (sx X) z B E) → PW X e (tB (sx X) z B f E)
structure JA (X : Cx) (z : ZT) (es : List Expr) (f : XA) : Prop where
  run : ∀ (B : Wd) (E : Exn → Loc → Cells → Prop), Tkz z X (wx (sx X) z B E) → PA X es (tA (sx X) z B f E)
structure JS (X : Cx) (z : ZT) (st : Stmt) (f : XS) : Prop where
  run : ∀ (B : Wd) (E : Exn → Loc → Cells → Prop), Tkz z X (wx (sx X) z B E) → PS X st (tS (sx X) z B f E)
structure JSs (X : Cx) (z : ZT) (st : List Stmt) (f : XS) : Prop where
  run : ∀ (B : Wd) (E : Exn → Loc → Cells → Prop), Tkz z X (wx (sx X) z B E) → PSs X st (tS (sx X) z B f E)
section
variable {X : Cx} {e : Expr} {es : List Expr} {st : Stmt} {sts : List Stmt}
theorem pe_imp {t t' : TE} (h : PE X e t) (k : ∀ σ H Q, t' σ H Q → t σ H Q) : PE X e t' := ⟨fun pins s σ H Q I q => h.run pins s σ H Q I (k _ _ _ q)⟩
theorem pt_imp {t t' : TT} (h : PT X e t) (k : ∀ σ H Q, t' σ H Q → t σ H Q) : PT X e t' := ⟨fun pins s σ H Q I q => h.run pins s σ H Q I (k _ _ _ q)⟩
theorem pa_imp {t t' : TA} (h : PA X es t) (k : ∀ σ H Q, t' σ H Q → t σ H Q) : PA X es t' := ⟨fun pos pins s σ H Q I q => h.run pos pins s σ H Q I (k _ _ _ q)⟩
theorem ps_imp {t t' : TS} (h : PS X st t) (k : ∀ D σ H, t' D σ H → t D σ H) : PS X st t' := ⟨fun pins s σ H D I q => h.run pins s σ H D I (k _ _ _ q)⟩
theorem pss_imp {t t' : TS} (h : PSs X sts t) (k : ∀ D σ H, t' D σ H → t D σ H) : PSs X sts t' := ⟨fun pins s σ H D I q => h.run pins s σ H D I (k _ _ _ q)⟩
end
end F

/-! expressions -/
namespace F
open PySem PySem.Spec PyProof.Rows L2 Evl
def rd {α : Type} (o : Cells → Option α) : EM α := fun cs => match o cs with
  | some a => .ok a cs
  | none => .no
theorem wp_rd {α : Type} {o : Cells → Option α} {cs : Cells} {Q : α → Cells → Prop} {E : Exn → Cells → Prop} : wp (rd o) cs Q E ↔ ∃ r, o cs = some r ∧ Q r cs := by
  unfold wp rd
  cases o cs with
  | none => exact ⟨fun h => h.elim, fun ⟨r, h, _⟩ => nomatch h⟩
  | some a => exact ⟨fun h => ⟨a, rfl, h⟩, fun ⟨r, h, q⟩ => by cases h; exact q⟩
/-! ### the heap grows -/
section
variable {Z : Sx} {W W' : Wd} {cs : Cells} {H : Hp} {p : Addr} {o : HO}
theorem S.freeG (s : S Z W cs H) (h : H p = none) : W.G p = none := fresh_back s.g h
theorem S.freeO (s : S Z W cs H) (h : H p = none) : W.O p = none := fresh_back s.o h
theorem S.freeI (s : S Z W cs H) (h : H p = none) : p ∉ W.i := fun hp => by
  obtain ⟨u, e⟩ := s.al p hp
  rw [h] at e
  cases e
/-- a new object that stands for good -/
abbrev Wd.new (W : Wd) (p : Addr) (o : HO) : Wd := { W with G := upd W.G p o }
theorem S.leNew (s : S Z W cs H) (h : H p = none) : Le W (W.new p o) := ⟨Ex.new (s.freeG h), fun _ _ e => e⟩
theorem S.new (s : S Z W cs H) (h : H p = none) : S Z (W.new p o) cs (upd H p o) where
  g := E.ex_upd s.g p o
  o := s.o.trans (Ex.new h)
  dj := fun a u e => by
    have n : a ≠ p := fun z => by rw [z, s.freeO h] at e; cases e
    show upd W.G p o a = none
    rw [upd_ne n]
    exact s.dj a u e
  len := s.len
  nd := s.nd
  al := fun a ha => by
    obtain ⟨u, e⟩ := s.al a ha
    exact ⟨u, by rw [upd_ne (ne_of_none e h)]; exact e⟩
  fo := s.fo
  at_ := fun n a c e1 e2 e3 => by
    obtain ⟨g, u, e, r⟩ := s.at_ n a c e1 e2 e3
    have ne : a ≠ p := ne_of_none e h
    exact ⟨by show upd W.G p o a = none; rw [upd_ne ne]; exact g, u, by rw [upd_ne ne]; exact e, r.mono (s.leNew h)⟩
end
/-! ### sequences -/
def celL (cs : Cells) (n : Nat) : Option (List D) := match cs[n]? with
  | some (.lst xs) => some xs
  | _ => none
def seqOf (cs : Cells) : D → Option (List D)
  | .tup xs => some xs
  | .lst xs => some xs
  | .wls xs => some xs
  | .cel n => celL cs n
  | _ => none
section
variable {Z : Sx} {W W' : Wd} {cs : Cells} {H : Hp} {p : Addr} {o : HO} {v : V} {d : D} {ds : List D}
theorem celL_ok (s : S Z W cs H) {n : Nat} {a : Addr} (h : W.i[n]? = some a) (e : celL cs n = some ds) : ∃ xs, H a = some (.lst xs) ∧ RepA Z W xs ds ∧ W.G a = none ∧ cs[n]? = some (.lst ds) := by
  unfold celL at e
  split at e
  · rename_i xs hc
    cases e
    obtain ⟨g, u, hu, xs, e, r⟩ := s.at_ n a _ h hc (fun z => nomatch z)
    subst e
    exact ⟨xs, hu, r, g, hc⟩
  · cases e
theorem seq_ok (s : S Z W cs H) (r : Rep Z W v d) (e : seqOf cs d = some ds) : ∃ a xs, v = .ref a ∧ (SqL Z.K H a xs ∨ SqT Z.K H a xs) ∧ RepA Z W xs ds := by
  cases r with
  | tup h r => cases e; exact ⟨_, _, rfl, .inr (ex_t s.g h), r⟩
  | lst h r => cases e; exact ⟨_, _, rfl, .inl (sq_of (s.g _ _ h)), r⟩
  | wls h r => cases e; exact ⟨_, _, rfl, .inl (ex_l s.g h), r⟩
  | cel h =>
    obtain ⟨xs, h1, h2, _⟩ := celL_ok s h e
    exact ⟨_, xs, rfl, .inl (sq_of h1), h2⟩
  | _ => cases e
end
/-! ### readings of operators -/
def r1 (Z : Sx) (g : Cells → D → Option D) : V → Hp → VK → Prop := fun x H Q => ∃ W cs d r, S Z W cs H ∧ Rep Z W x d ∧ g cs d = some r ∧ ∀ W' v H', Le W W' → W'.O = W.O → S Z W' cs H' → Rep Z W' v r → Q v H'
def r2 (Z : Sx) (g : Cells → D → D → Option D) : R2 := fun x y H Q => ∃ W cs d e r, S Z W cs H ∧ Rep Z W x d ∧ Rep Z W y e ∧ g cs d e = some r ∧ ∀ W' v H', Le W W' → W'.O = W.O → S Z W' cs H' → Rep Z W' v r → Q v H'
def rN (Z : Sx) (g : Cells → List D → Option D) : List V → Hp → VK → Prop := fun xs H Q => ∃ W cs ds r, S Z W cs H ∧ RepA Z W xs ds ∧ g cs ds = some r ∧ ∀ W' v H', Le W W' → W'.O = W.O → S Z W' cs H' → Rep Z W' v r → Q v H'
/-! ### the machine's words -/
def xVar (i : Nat) : XE := fun l => match l[i]? with
  | some (.val d) => rt d
  | some (.me d) => rt d
  | _ => no
def xC (d : D) : XE := fun _ => rt d
def x1 (g : Cells → D → Option D) (fa : XE) : XE := fun l => bd (fa l) fun x => rd fun cs => g cs x
def x2 (g : Cells → D → D → Option D) (fa fb : XE) : XE := fun l => bd (fa l) fun x => bd (fb l) fun y => rd fun cs => g cs x y
def xN (g : Cells → List D → Option D) (fa : XA) : XE := fun l => bd (fa l) fun xs => rd fun cs => g cs xs
def asB : D → EM Bool
  | .bl b => rt b
  | _ => no
def bV (f : XE) : XB := fun l => bd (f l) asB
def bNot (f : XB) : XB := fun l => bd (f l) fun b => rt (!b)
def bOr (f g : XB) : XB := fun l => bd (f l) fun b => if b = true then rt true else g l
def bAnd (f g : XB) : XB := fun l => bd (f l) fun b => if b = true then g l else rt false
def xOr (f g : XE) : XE := fun l => bd (bV f l) fun b => if b = true then rt (.bl true) else g l
def xAnd (f g : XE) : XE := fun l => bd (bV f l) fun b => if b = true then g l else rt (.bl false)
def xNot (f : XE) : XE := fun l => bd (bV f l) fun b => rt (.bl (!b))
def xIf (t : XB) (f g : XE) : XE := fun l => bd (t l) fun b => if b = true then f l else g l
def aNil : XA := fun _ => rt []
def aCons (f : XE) (g : XA) : XA := fun l => bd (f l) fun d => bd (g l) fun ds => rt (d :: ds)
def aStar (f : XE) (g : XA) : XA := fun l => bd (f l) fun d => bd (rd fun cs => seqOf cs d) fun xs => bd (g l) fun ds => rt (xs ++ ds)
def xTup (f : XA) : XE := fun l => bd (f l) fun ds => rt (.tup ds)
def xLst (f : XA) : XE := fun l => bd (f l) fun ds => rt (.lst ds)
def fit (ds : List D) : EM Unit := if ds.length ≤ 1000000 then rt () else no
def xTupS (f : XA) : XE := fun l => bd (f l) fun ds => bd (fit ds) fun _ => rt (.tup ds)
def xLstS (f : XA) : XE := fun l => bd (f l) fun ds => bd (fit ds) fun _ => rt (.lst ds)
theorem wp_fit {ds : List D} {cs : Cells} {Q : Unit → Cells → Prop} {E : Exn → Cells → Prop} (h : wp (fit ds) cs Q E) : ds.length ≤ sizeLine ∧ Q () cs := by
  unfold fit at h
  by_cases e : ds.length ≤ 1000000
  · rw [if_pos e] at h
    exact ⟨Nat.le_trans e (by decide), h⟩
  · rw [if_neg e] at h
    exact h.elim
/-! ### the rules -/
section
variable {X : Cx} {z : ZT} {e a b c : Expr} {es : List Expr} {fa fb fc : XE} {ta tb : XB} {f : XA} {pos p : Pos}
theorem je_var {i : Nat} (h : PE X e (tVar i)) : JE X z e (xVar i) := ⟨fun B E tk => pe_imp h fun σ H Q ⟨W, cs, l, s, lr, w⟩ => by
  unfold xVar at w
  split at w
  · rename_i d hd
    obtain ⟨u, hu, r⟩ := lr.sl i _ hd
    exact ⟨u, hu, w W u H (Le.refl _) rfl s r⟩
  · rename_i d hd
    obtain ⟨a, hu, _, r⟩ := lr.sl i _ hd
    exact ⟨_, hu, w W _ H (Le.refl _) rfl s r⟩
  · exact w.elim⟩
theorem je_c {v : V} {d : D} (h : PE X e (tC v)) (r : ∀ W, Rep (sx X) W v d) : JE X z e (xC d) := ⟨fun B E tk => pe_imp h fun σ H Q ⟨W, cs, l, s, lr, w⟩ => w W v H (Le.refl _) rfl s (r W)⟩
theorem je_non {j} : JE X z (.Constant .none j pos) (xC .non) := je_c pe_non fun _ => .non
theorem je_bl {b j} : JE X z (.Constant (.bool b) j pos) (xC (.bl b)) := je_c pe_bl fun _ => .bl b
theorem je_int {i j} : JE X z (.Constant (.int i) j pos) (xC (.int i)) := je_c pe_int fun _ => .int i
theorem je_str {x j} (h : x.length ≤ sizeLine := by decide +kernel) : JE X z (.Constant (.str x) j pos) (xC (.str x)) := je_c pe_str fun _ => .str h
theorem two {g : Cells → D → D → Option D} {B : Wd} {E : Exn → Loc → Cells → Prop} {σ : L2.St} {H : Hp} {Q : VK} (h : tE (sx X) z B (x2 g fa fb) E σ H Q) : tOp (r2 (sx X) g) (tE (sx X) z B fa E) (tE (sx X) z B fb E) σ H Q := by
  obtain ⟨W, cs, l, s, lr, w⟩ := h
  refine ⟨W, cs, l, s, lr, wp_imp (wp_bd.mp w) (fun d cs1 w1 W1 v1 H1 le1 o1 s1 r1 => ?_) fun _ _ h => h⟩
  refine ⟨W1, cs1, l, s1, lr.mono le1 o1, wp_imp (wp_bd.mp w1) (fun e cs2 w2 W2 v2 H2 le2 o2 s2 r2 => ?_) fun _ _ h => h⟩
  obtain ⟨r, hr, k⟩ := wp_rd.mp w2
  exact ⟨W2, cs2, d, e, r, s2, r1.mono le2, r2, hr, fun W3 v H3 le3 o3 s3 r3 => k W3 v H3 ((le1.trans le2).trans le3) (o3.trans (o2.trans o1)) s3 r3⟩
theorem je_2 {g : Cells → D → D → Option D} (hp : ∀ {t u : TE}, PE X a t → PE X b u → PE X e (tOp (r2 (sx X) g) t u)) (ha : JE X z a fa) (hb : JE X z b fb) : JE X z e (x2 g fa fb) :=
  ⟨fun B E tk => pe_imp (hp (ha.run B E tk) (hb.run B E tk)) fun _ _ _ h => two h⟩
theorem je_N {g : Cells → List D → Option D} (hp : ∀ {t : TA}, PA X es t → PE X e (tCB (rN (sx X) g) t)) (ha : JA X z es f) : JE X z e (xN g f) := ⟨fun B E tk => pe_imp (hp (ha.run B E tk)) fun σ H Q ⟨W, cs, l, s, lr, w⟩ => by
  refine ⟨W, cs, l, s, lr, wp_imp (wp_bd.mp w) (fun d cs1 w1 W1 v1 H1 le1 o1 s1 r1 => ?_) fun _ _ h => h⟩
  obtain ⟨r, hr, k⟩ := wp_rd.mp w1
  exact ⟨W1, cs1, d, r, s1, r1, hr, fun W3 v H3 le3 o3 s3 r3 => k W3 v H3 (le1.trans le3) (o3.trans o1) s3 r3⟩⟩
/-! tests -/
theorem asB_ok {d : D} {cs : Cells} {Q : Bool → Cells → Prop} {E : Exn → Cells → Prop} (h : wp (asB d) cs Q E) : ∃ b, d = .bl b ∧ Q b cs := by
  cases d <;> first | exact ⟨_, rfl, h⟩ | exact h.elim
theorem bV_ok {B : Wd} {E : Exn → Loc → Cells → Prop} {σ : L2.St} {H : Hp} {Q : Bool → Hp → Prop} (h : tB (sx X) z B (bV fa) E σ H Q) : tE (sx X) z B fa E σ H fun x H1 => ∃ k, x = .bl k ∧ Q k H1 := by
  obtain ⟨W, cs, l, s, lr, w⟩ := h
  refine ⟨W, cs, l, s, lr, wp_imp (wp_bd.mp w) (fun d cs1 w1 W1 v1 H1 le1 o1 s1 r1 => ?_) fun _ _ h => h⟩
  obtain ⟨b, rfl, k⟩ := asB_ok w1
  cases r1
  exact ⟨b, rfl, k W1 H1 le1 o1 s1⟩
theorem jt_val (hp : ∀ {t : TE}, PE X e t → PT X e (L2.tB t)) (h : JE X z e fa) : JT X z e (bV fa) := ⟨fun B E tk => pt_imp (hp (h.run B E tk)) fun σ H Q h => bV_ok h⟩
theorem jt_2 {g : Cells → D → D → Option D} (hp : ∀ {t u : TE}, PE X a t → PE X b u → PT X e (tTest (tOp (r2 (sx X) g) t u))) (ha : JE X z a fa) (hb : JE X z b fb) : JT X z e (bV (x2 g fa fb)) :=
  ⟨fun B E tk => pt_imp (hp (ha.run B E tk) (hb.run B E tk)) fun σ H Q h => two (bV_ok h)⟩
theorem JW.pt (h : JW X z e ta) : JT X z e ta := ⟨fun B E tk => (h.run B E tk).pt⟩
theorem je_if (hc : JT X z c ta) (ha : JE X z a fa) (hb : JE X z b fb) : JE X z (.IfExp c a b pos) (xIf ta fa fb) := ⟨fun B E tk => pe_imp (pe_ifExp (hc.run B E tk) (ha.run B E tk) (hb.run B E tk)) fun σ H Q ⟨W, cs, l, s, lr, w⟩ => by
  refine ⟨W, cs, l, s, lr, wp_imp (wp_bd.mp w) (fun k cs1 w1 W1 H1 le1 o1 s1 => ?_) fun _ _ h => h⟩
  cases k with
  | true => exact iteT ⟨W1, cs1, l, s1, lr.mono le1 o1, wp_imp w1 (fun d cs2 w2 W2 v H2 le2 o2 s2 r2 => w2 W2 v H2 (le1.trans le2) (o2.trans o1) s2 r2) fun _ _ h => h⟩
  | false => exact iteF ⟨W1, cs1, l, s1, lr.mono le1 o1, wp_imp w1 (fun d cs2 w2 W2 v H2 le2 o2 s2 r2 => w2 W2 v H2 (le1.trans le2) (o2.trans o1) s2 r2) fun _ _ h => h⟩⟩
/-! argument lists -/
/-- .. of a written number -/
structure JL (X : Cx) (z : ZT) (es : List Expr) (f : XA) : Prop where
  ja : JA X z es f
  len : ∀ l cs ds cs', f l cs = .ok ds cs' → ds.length = es.length
theorem ja_nil : JA X z [] aNil := ⟨fun B E tk => pa_imp pa_nil fun σ H Q ⟨W, cs, l, s, lr, w⟩ => w W [] H (Le.refl _) rfl s .nil⟩
theorem ja_cons (ha : JE X z e fa) (hr : JA X z es f) (hs : starEach (e :: es) X.env = (false, eval e X.env) :: starEach es X.env := by rfl) : JA X z (e :: es) (aCons fa f) := ⟨fun B E tk => pa_imp (pa_cons (ha.run B E tk) (hr.run B E tk) hs) fun σ H Q ⟨W, cs, l, s, lr, w⟩ => by
  refine ⟨W, cs, l, s, lr, wp_imp (wp_bd.mp w) (fun d cs1 w1 W1 v1 H1 le1 o1 s1 r1 => ?_) fun _ _ h => h⟩
  refine ⟨W1, cs1, l, s1, lr.mono le1 o1, wp_imp (wp_bd.mp w1) (fun ds cs2 w2 W2 vs H2 le2 o2 s2 r2 => ?_) fun _ _ h => h⟩
  exact w2 W2 (v1 :: vs) H2 (le1.trans le2) (o2.trans o1) s2 (.cons (r1.mono le2) r2)⟩
theorem bd_ok {α β : Type} {m : EM α} {k : α → EM β} {cs cs' : Cells} {r : β} (h : bd m k cs = .ok r cs') : ∃ a cs1, m cs = .ok a cs1 ∧ k a cs1 = .ok r cs' := by
  unfold bd at h
  cases e : m cs with
  | ok a cs1 => rw [e] at h; exact ⟨a, cs1, rfl, h⟩
  | exc x cs1 => rw [e] at h; cases h
  | no => rw [e] at h; cases h
theorem jl_nil : JL X z [] aNil := ⟨ja_nil, fun l cs ds cs' h => by cases h; rfl⟩
theorem jl_cons (ha : JE X z e fa) (hr : JL X z es f) (hs : starEach (e :: es) X.env = (false, eval e X.env) :: starEach es X.env := by rfl) : JL X z (e :: es) (aCons fa f) := ⟨ja_cons ha hr.ja hs, fun l cs ds cs' h => by
  obtain ⟨d, cs1, h1, h2⟩ := bd_ok h
  obtain ⟨rs, cs2, h3, h4⟩ := bd_ok h2
  cases h4
  exact congrArg (· + 1) (hr.len _ _ _ _ h3)⟩
/-! displays -/
theorem wp_len {m : EM (List D)} {n : Nat} {cs : Cells} {Q : List D → Cells → Prop} {E : Exn → Cells → Prop} (h : wp m cs Q E) (k : ∀ ds cs', m cs = .ok ds cs' → ds.length = n) : wp m cs (fun ds cs' => ds.length = n ∧ Q ds cs') E := by
  unfold wp at h ⊢
  cases e : m cs with
  | ok a cs1 => rw [e] at h; exact ⟨k _ _ e, h⟩
  | exc x cs1 => rw [e] at h; exact h
  | no => rw [e] at h; exact h
theorem je_tup {k} (h : JL X z es f) (hl : es.length ≤ sizeLine := by decide +kernel) : JE X z (.Tuple es k pos) (xTup f) := ⟨fun B E tk => pe_imp (pe_tupN (h.ja.run B E tk)) fun σ H Q ⟨W, cs, l, s, lr, w⟩ => by
  refine ⟨W, cs, l, s, lr, wp_imp (wp_len (wp_bd.mp w) (h.len l cs)) (fun ds cs1 ⟨ln, w1⟩ W1 vs H1 le1 o1 s1 r1 => ?_) fun _ _ h => h⟩
  exact ⟨by rw [r1.length, ln]; exact hl, fun q ob hq hd => w1 _ _ _ (le1.trans (s1.leNew hq)) o1 (s1.new hq) (.tup sqt_new (r1.mono (s1.leNew hq)) (.new hd))⟩⟩
theorem je_lst (h : JL X z es f) (hl : es.length ≤ sizeLine := by decide +kernel) : JE X z (.List es pos) (xLst f) := ⟨fun B E tk => pe_imp (pe_lst (h.ja.run B E tk)) fun σ H Q ⟨W, cs, l, s, lr, w⟩ => by
  refine ⟨W, cs, l, s, lr, wp_imp (wp_len (wp_bd.mp w) (h.len l cs)) (fun ds cs1 ⟨ln, w1⟩ W1 vs H1 le1 o1 s1 r1 => ?_) fun _ _ h => h⟩
  exact ⟨by rw [r1.length, ln]; exact hl, fun q hq => w1 _ _ _ (le1.trans (s1.leNew hq)) o1 (s1.new hq) (.lst upd_same (r1.mono (s1.leNew hq)))⟩⟩
end
end F

/-! operators over data -/
namespace F
open PySem PySem.Spec PyProof.Rows L2 Evl
section
variable {X : Cx}
theorem OpR.im {f : Value → Value → Sem Value} {r r' : R2} (h : OpR X f r) (k : ∀ x y H Q, r' x y H Q → r x y H Q) : OpR X f r' := fun pins s σ H x y v u Q I rx ry q => h pins s σ H x y v u Q I rx ry (k _ _ _ _ q)
theorem CallR.im {f : Value} {r r' : List V → Hp → VK → Prop} (h : CallR X f r) (k : ∀ xs H Q, r' xs H Q → r xs H Q) : CallR X f r' := fun pins s σ H xs us Q I rx q => h pins s σ H xs us Q I rx (k _ _ _ q)
theorem UnR.im {f : Value → Sem Value} {r r' : V → Hp → VK → Prop} (h : UnR X f r) (k : ∀ x H Q, r' x H Q → r x H Q) : UnR X f r' := fun pins s σ H x u Q I rx q => h pins s σ H x u Q I rx (k _ _ _ q)
theorem IxR.im {r r' : R2} (h : IxR X r) (k : ∀ x y H Q, r' x y H Q → r x y H Q) : IxR X r' := fun a b pins s σ H x y v u Q I rx ry q => h a b pins s σ H x y v u Q I rx ry (k _ _ _ _ q)
end
section
variable {Z : Sx} {W W' : Wd} {cs : Cells} {H : Hp} {v : V} {d : D}
theorem rep_int {i : Int} (r : Rep Z W v (.int i)) : v = .int i := by cases r; rfl
theorem rep_str {x : Str} (r : Rep Z W v (.str x)) : v = .str x ∧ x.length ≤ sizeLine := by cases r with | str h => exact ⟨rfl, h⟩
theorem rep_bl {b : Bool} (r : Rep Z W v (.bl b)) : v = .bl b := by cases r; rfl
end
/-! ints -/
def i2 (C : Int → Int → Bool) (g : Int → Int → D) : Cells → D → D → Option D := fun _ x y => match x, y with
  | .int i, .int j => if C i j = true then some (g i j) else none
  | _, _ => none
theorem i2_ok {C : Int → Int → Bool} {g : Int → Int → D} {cs : Cells} {d e r : D} (h : i2 C g cs d e = some r) : ∃ i j, d = .int i ∧ e = .int j ∧ C i j = true ∧ r = g i j := by
  unfold i2 at h
  split at h
  · rename_i i j
    by_cases c : C i j = true
    · rw [if_pos c] at h
      cases h
      exact ⟨i, j, rfl, rfl, c, rfl⟩
    · rw [if_neg c] at h
      cases h
  · cases h
def always : Int → Int → Bool := fun _ _ => true
theorem r2_i {Z : Sx} {C : Int → Int → Bool} {P : Int → Int → Prop} {g : Int → Int → D} {g' : Int → Int → V} (hc : ∀ i j, C i j = true → P i j) (hg : ∀ W i j, Rep Z W (g' i j) (g i j)) : ∀ x y H Q, r2 Z (i2 C g) x y H Q → rI P g' x y H Q := fun x y H Q ⟨W, cs, d, e, r, s, rx, ry, h, k⟩ => by
  obtain ⟨i, j, rfl, rfl, c, rfl⟩ := i2_ok h
  cases rep_int rx
  cases rep_int ry
  exact ⟨i, j, rfl, rfl, hc i j c, k W _ H (Le.refl _) rfl s (hg W i j)⟩
theorem r2_i0 {Z : Sx} {g : Int → Int → D} {g' : Int → Int → V} (hg : ∀ W i j, Rep Z W (g' i j) (g i j)) : ∀ x y H Q, r2 Z (i2 always g) x y H Q → rI0 g' x y H Q := fun x y H Q ⟨W, cs, d, e, r, s, rx, ry, h, k⟩ => by
  obtain ⟨i, j, rfl, rfl, c, rfl⟩ := i2_ok h
  cases rep_int rx
  cases rep_int ry
  exact ⟨i, j, rfl, rfl, k W _ H (Le.refl _) rfl s (hg W i j)⟩
def cMul : Int → Int → Bool := fun i j => (decide (-18446744073709551616 < i) && decide (i < 18446744073709551616)) || (decide (-18446744073709551616 < j) && decide (j < 18446744073709551616))
def cMod : Int → Int → Bool := fun _ j => decide (0 < j)
def cDiv : Int → Int → Bool := fun _ j => decide (0 < j) && decide (j.natAbs.log2 < 9000)
def cPow : Int → Int → Bool := fun i j => decide (0 ≤ j) && (decide (j ≤ 1000000) && decide (i.natAbs < 18446744073709551616))
def dSub := i2 always fun i j => .int (i - j)
def dMul := i2 cMul fun i j => .int (i * j)
def dMod := i2 cMod fun i j => .int (i % j)
def dDiv := i2 cDiv fun i j => .int (i / j)
def dPow := i2 cPow fun i j => .int (i ^ j.toNat)
def dLt := i2 always fun i j => .bl (decide (i < j))
def dLe := i2 always fun i j => .bl (decide (i ≤ j))
def dGt := i2 always fun i j => .bl (decide (j < i))
def dGe := i2 always fun i j => .bl (decide (j ≤ i))
section
variable {X : Cx}
theorem od_sub : OpR X (binaryOp .Sub) (r2 (sx X) dSub) := OpR.im op_sub (r2_i0 fun _ _ _ => .int _)
theorem od_mul : OpR X (binaryOp .Mult) (r2 (sx X) dMul) := OpR.im op_mul (r2_i (fun i j h => by
  unfold cMul at h
  simp only [Bool.or_eq_true, Bool.and_eq_true, decide_eq_true_eq] at h
  exact h) fun _ _ _ => .int _)
theorem od_mod : OpR X (binaryOp .Mod) (r2 (sx X) dMod) := OpR.im op_mod (r2_i (fun i j h => of_decide_eq_true h) fun _ _ _ => .int _)
theorem od_div : OpR X (binaryOp .FloorDiv) (r2 (sx X) dDiv) := OpR.im op_fdivW (r2_i (fun i j h => by
  unfold cDiv at h
  simp only [Bool.and_eq_true, decide_eq_true_eq] at h
  exact h) fun _ _ _ => .int _)
theorem od_pow : OpR X (binaryOp .Pow) (r2 (sx X) dPow) := OpR.im op_pow (r2_i (fun i j h => by
  unfold cPow at h
  simp only [Bool.and_eq_true, decide_eq_true_eq] at h
  exact h) fun _ _ _ => .int _)
theorem od_lt : OpR X (compareOp .Lt) (r2 (sx X) dLt) := OpR.im op_lt (r2_i0 fun _ _ _ => .bl _)
theorem od_gt : OpR X (compareOp .Gt) (r2 (sx X) dGt) := OpR.im op_gt (r2_i0 fun _ _ _ => .bl _)
theorem od_ge : OpR X (compareOp .GtE) (r2 (sx X) dGe) := OpR.im op_ge (r2_i0 fun _ _ _ => .bl _)
end
def dNeg : Cells → D → Option D := fun _ x => match x with
  | .int i => some (.int (-i))
  | _ => none
/-! + -/
def lsOf (cs : Cells) : D → Option (List D)
  | .lst xs => some xs
  | .cel n => celL cs n
  | _ => none
theorem ls_ok {Z : Sx} {W : Wd} {cs : Cells} {H : Hp} {v : V} {d : D} {ds : List D} (s : S Z W cs H) (r : Rep Z W v d) (e : lsOf cs d = some ds) : ∃ a xs, v = .ref a ∧ H a = some (.lst xs) ∧ RepA Z W xs ds := by
  cases r with
  | lst h r => cases e; exact ⟨_, _, rfl, s.g _ _ h, r⟩
  | cel h =>
    obtain ⟨xs, h1, h2, _⟩ := celL_ok s h e
    exact ⟨_, xs, rfl, h1, h2⟩
  | _ => cases e
def fitB (n : Nat) : Bool := decide (n ≤ 1000000)
theorem fitB_ok {n : Nat} (h : fitB n = true) : n ≤ sizeLine := Nat.le_trans (of_decide_eq_true h) (by decide)
def catL (cs : Cells) (x y : D) : Option D := match lsOf cs x, lsOf cs y with
  | some xs, some ys => if fitB (xs.length + ys.length) = true then some (.lst (xs ++ ys)) else none
  | _, _ => none
def dAdd (cs : Cells) (x y : D) : Option D := match x, y with
  | .int i, .int j => some (.int (i + j))
  | .str a, .str b => if fitB (a.length + b.length) = true then some (.str (a ++ b)) else none
  | .tup xs, .tup ys => if fitB (xs.length + ys.length) = true then some (.tup (xs ++ ys)) else none
  | x, y => catL cs x y
theorem str_app_len (a b : Str) : (a ++ b).length = a.length + b.length := by
  show (a.cps ++ b.cps).size = _
  exact Array.size_append
/-- + of ints, texts, lists, tuples (the new tuple is known whole) -/
def rAddN (K : PySem.W.Frag) : R2 := fun x y H Q => rI0 (fun i j => V.int (i + j)) x y H Q ∨ E.rAddStr x y H Q ∨ rCat x y H Q ∨ rCatN K x y H Q
theorem op_addN {X : Cx} : OpR X (binaryOp .Add) (rAddN X.K) := OpR.or op_add (OpR.or op_add_str (OpR.or op_cat op_catN))
theorem od_add {X : Cx} : OpR X (binaryOp .Add) (r2 (sx X) dAdd) := OpR.im op_addN fun x y H Q ⟨W, cs, d, e, r, s, rx, ry, h, k⟩ => by
  unfold dAdd at h
  split at h
  · cases h
    cases rep_int rx
    cases rep_int ry
    exact Or.inl ⟨_, _, rfl, rfl, k W _ H (Le.refl _) rfl s (.int _)⟩
  · rename_i a b
    obtain ⟨rfl, _⟩ := rep_str rx
    obtain ⟨rfl, _⟩ := rep_str ry
    split at h
    · rename_i c
      cases h
      exact Or.inr (Or.inl ⟨_, _, rfl, rfl, fitB_ok c, k W _ H (Le.refl _) rfl s (.str (by rw [str_app_len]; exact fitB_ok c))⟩)
    · cases h
  · rename_i xs ys
    split at h
    · rename_i c
      cases h
      cases rx with
      | tup h1 r1 n1 =>
        cases ry with
        | tup h2 r2 n2 =>
          refine Or.inr (Or.inr (Or.inr ⟨_, _, _, _, rfl, rfl, ex_t s.g h1, ex_t s.g h2, by rw [r1.length, r2.length]; exact fitB_ok c, fun m1 => ?_, fun _ m2 => ?_, fun _ _ q ob hq hd => ?_⟩))
          · subst m1
            cases r1
            exact k W _ H (Le.refl _) rfl s (.tup h2 r2 n2)
          · subst m2
            cases r2
            rw [List.append_nil] at k
            exact k W _ H (Le.refl _) rfl s (.tup h1 r1 n1)
          · exact k _ _ _ (s.leNew hq) rfl (s.new hq) (.tup sqt_new ((r1.append r2).mono (s.leNew hq)) (.new hd))
    · cases h
  · unfold catL at h
    split at h
    · rename_i xs ys e1 e2
      split at h
      · rename_i c
        cases h
        obtain ⟨a, us, rfl, ha, ra⟩ := ls_ok s rx e1
        obtain ⟨b, ws, rfl, hb, rb⟩ := ls_ok s ry e2
        refine Or.inr (Or.inr (Or.inl ⟨_, _, _, _, rfl, rfl, ha, hb, by rw [ra.length, rb.length]; exact fitB_ok c, fun q hq => ?_⟩))
        exact k _ _ _ (s.leNew hq) rfl (s.new hq) (.lst upd_same ((ra.append rb).mono (s.leNew hq)))
      · cases h
    · cases h
/-! == of data -/
mutual
def toP0 : D → Option PyData
  | .non => some .none
  | .bl b => some (.bool b)
  | .int i => some (.int i)
  | .str x => some (.str x)
  | .tup xs => (toPs xs).map .tuple
  | .lst xs => (toPs xs).map .list
  | .wls xs => (toPs xs).map .list
  | _ => none
def toPs : List D → Option (List PyData)
  | [] => some []
  | d :: ds => match toP0 d, toPs ds with
    | some p, some ps => some (p :: ps)
    | _, _ => none
end
def toP (cs : Cells) : D → Option PyData
  | .cel n => match celL cs n with
    | some xs => (toPs xs).map .list
    | none => none
  | d => toP0 d
section
variable {Z : Sx} {W : Wd} {cs : Cells} {H : Hp}
mutual
theorem dp_of (e : Ex W.G H) : ∀ (d : D) {v : V} {p : PyData}, Rep Z W v d → toP0 d = some p → Dp Z.K H v p
  | .non, _, _, r, h => by cases r; cases h; exact .non
  | .bl b, _, _, r, h => by cases r; cases h; exact .bl b
  | .int i, _, _, r, h => by cases r; cases h; exact .int i
  | .str x, _, _, r, h => by cases r; cases h; exact .str x
  | .tup xs, _, _, r, h => by
    cases r with
    | tup h1 r1 =>
      unfold toP0 at h
      cases q : toPs xs with
      | none => rw [q] at h; cases h
      | some ps => rw [q] at h; cases h; exact .tup (ex_t e h1) (dps_of e xs r1 q)
  | .lst xs, _, _, r, h => by
    cases r with
    | lst h1 r1 =>
      unfold toP0 at h
      cases q : toPs xs with
      | none => rw [q] at h; cases h
      | some ps => rw [q] at h; cases h; exact .lst (sq_of (e _ _ h1)) (dps_of e xs r1 q)
  | .wls xs, _, _, r, h => by
    cases r with
    | wls h1 r1 =>
      unfold toP0 at h
      cases q : toPs xs with
      | none => rw [q] at h; cases h
      | some ps => rw [q] at h; cases h; exact .lst (ex_l e h1) (dps_of e xs r1 q)
  | .ins _ _, _, _, _, h => by unfold toP0 at h; cases h
  | .cel _, _, _, _, h => by unfold toP0 at h; cases h
  | .cls _, _, _, _, h => by unfold toP0 at h; cases h
  | .ty _, _, _, _, h => by unfold toP0 at h; cases h
theorem dps_of (e : Ex W.G H) : ∀ (ds : List D) {vs : List V} {ps : List PyData}, RepA Z W vs ds → toPs ds = some ps → DpAll Z.K H vs ps
  | [], _, _, r, h => by cases r; unfold toPs at h; cases h; exact .nil
  | d :: ds, _, _, r, h => by
    cases r with
    | cons r1 r2 =>
      unfold toPs at h
      cases q : toP0 d with
      | none => rw [q] at h; cases h
      | some p =>
        cases q2 : toPs ds with
        | none => rw [q, q2] at h; cases h
        | some ps => rw [q, q2] at h; cases h; exact .cons (dp_of e d r1 q) (dps_of e ds r2 q2)
end
theorem dp_ok (s : S Z W cs H) {d : D} {v : V} {p : PyData} (r : Rep Z W v d) (h : toP cs d = some p) : Dp Z.K H v p := by
  unfold toP at h
  split at h
  · rename_i n
    cases q : celL cs n with
    | none => rw [q] at h; cases h
    | some xs =>
      rw [q] at h
      cases r with
      | cel hi =>
        obtain ⟨us, h1, h2, _⟩ := celL_ok s hi q
        cases q2 : toPs xs with
        | none => dsimp only at h; rw [q2] at h; cases h
        | some ps => dsimp only at h; rw [q2] at h; cases h; exact .lst (sq_of h1) (dps_of s.g xs h2 q2)
  · exact dp_of s.g _ r h
end
def eqP (cs : Cells) (x y : D) : Option Bool := match toP cs x, toP cs y with
  | some p, some q => if (SeqAt.shaped p && SeqAt.shaped q) = true then some (PyData.eqv p q) else none
  | _, _ => none
def eqB (cs : Cells) (x y : D) : Option Bool := match x, y with
  | .str a, .str b => some (decide (a = b))
  | .int a, .int b => some (decide (a = b))
  | .bl a, .bl b => some (decide (a = b))
  | .non, .non => some true
  | .non, .str _ => some false
  | .str _, .non => some false
  | .non, .int _ => some false
  | .int _, .non => some false
  | .int _, .str _ => some false
  | .str _, .int _ => some false
  | x, y => eqP cs x y
def dEq (cs : Cells) (x y : D) : Option D := (eqB cs x y).map .bl
def dNe (cs : Cells) (x y : D) : Option D := (eqB cs x y).map fun b => .bl (!b)
theorem eqB_ok {Z : Sx} {W : Wd} {cs : Cells} {H : Hp} {x y : V} {d e : D} {b : Bool} (s : S Z W cs H) (rx : Rep Z W x d) (ry : Rep Z W y e) (h : eqB cs d e = some b) :
    (scal x y = true ∧ b = decide (x = y)) ∨ ∃ p q, Dp Z.K H x p ∧ Dp Z.K H y q ∧ SeqAt.shaped p = true ∧ SeqAt.shaped q = true ∧ b = PyData.eqv p q := by
  unfold eqB at h
  split at h
  case h_11 =>
    refine .inr ?_
    unfold eqP at h
    split at h
    · rename_i p q e1 e2
      split at h
      · rename_i c
        cases h
        obtain ⟨c1, c2⟩ := Bool.and_eq_true_iff.mp c
        exact ⟨p, q, dp_ok s rx e1, dp_ok s ry e2, c1, c2, rfl⟩
      · cases h
    · cases h
  all_goals (refine .inl ?_; cases h; cases rx; cases ry; refine ⟨rfl, ?_⟩; simp)
section
variable {X : Cx}
theorem od_eq (hu : X.A.units + 64 < cLine) : OpR X (compareOp .Eq) (r2 (sx X) dEq) := OpR.im (E.op_eqU hu) fun x y H Q ⟨W, cs, d, e, r, s, rx, ry, h, k⟩ => by
  unfold dEq at h
  cases q : eqB cs d e with
  | none => rw [q] at h; cases h
  | some b =>
    rw [q] at h
    cases h
    have kk := k W (.bl b) H (Le.refl _) rfl s (.bl b)
    rcases eqB_ok s rx ry q with ⟨h1, rfl⟩ | ⟨p, q', h1, h2, h3, h4, rfl⟩
    · exact Or.inl ⟨h1, kk⟩
    · exact Or.inr ⟨p, q', h1, h2, h3, h4, kk⟩
theorem od_ne (hu : X.A.units + 64 < cLine) : OpR X (compareOp .NotEq) (r2 (sx X) dNe) := OpR.im (E.op_neU hu) fun x y H Q ⟨W, cs, d, e, r, s, rx, ry, h, k⟩ => by
  unfold dNe at h
  cases q : eqB cs d e with
  | none => rw [q] at h; cases h
  | some b =>
    rw [q] at h
    cases h
    have kk := k W (.bl (!b)) H (Le.refl _) rfl s (.bl (!b))
    rcases eqB_ok s rx ry q with ⟨h1, rfl⟩ | ⟨p, q', h1, h2, h3, h4, rfl⟩
    · exact Or.inl ⟨h1, kk⟩
    · exact Or.inr ⟨p, q', h1, h2, h3, h4, kk⟩
end
/-! is None -/
def isNon : D → Bool
  | .non => true
  | _ => false
def dIsN (_ : Cells) (x y : D) : Option D := match y with
  | .non => some (.bl (isNon x))
  | _ => none
def dNotN (_ : Cells) (x y : D) : Option D := match y with
  | .non => some (.bl (!isNon x))
  | _ => none
section
variable {X : Cx}
end
end F

/-! built-ins over data -/
namespace F
open PySem PySem.Spec PyProof.Rows L2 Evl
/-! len, index -/
def dLen (cs : Cells) : List D → Option D
  | [.str x] => some (.int x.length)
  | [d] => (seqOf cs d).map fun xs => .int xs.length
  | _ => none
theorem cd_len {X : Cx} : CallR X (.builtin "len") (rN (sx X) dLen) := CallR.im call_len fun xs H Q ⟨W, cs, ds, r, s, rx, h, k⟩ => by
  unfold dLen at h
  split at h
  · cases h
    cases rx with
    | cons r1 r2 =>
      cases r2
      obtain ⟨rfl, hl⟩ := rep_str r1
      exact ⟨_, _, rfl, ⟨hl, rfl⟩, k W _ H (Le.refl _) rfl s (.int _)⟩
  · rename_i d _
    cases rx with
    | cons r1 r2 =>
      cases r2
      cases q : seqOf cs d with
      | none => rw [q] at h; cases h
      | some ys =>
        rw [q] at h
        cases h
        obtain ⟨a, us, rfl, hs, ra⟩ := seq_ok s r1 q
        refine ⟨_, us.length, rfl, ?_, k W _ H (Le.refl _) rfl s (by rw [ra.length]; exact .int _)⟩
        rcases hs with hs | hs
        · exact .inl ⟨us, hs, rfl⟩
        · exact .inr ⟨us, hs, rfl⟩
  · cases h
theorem atI_map {α β : Type} {R : α → β → Prop} {xs : List α} {ys : List β} (hl : xs.length = ys.length) (hg : ∀ (n : Nat) (y : β), ys[n]? = some y → ∃ x, xs[n]? = some x ∧ R x y) {i : Int} {y : β} (h : atI ys i = some y) : ∃ x, atI xs i = some x ∧ R x y := by
  unfold atI at h ⊢
  rw [hl]
  cases q : ixN ys.length i with
  | none => rw [q] at h; cases h
  | some j =>
    rw [q] at h
    exact hg j y h
def dIx (cs : Cells) (x y : D) : Option D := match x, y with
  | .str z, .int i => (atI z.cps.toList i).map fun c => .str ⟨#[c]⟩
  | d, .int i => match seqOf cs d with
    | some xs => atI xs i
    | none => none
  | _, _ => none
theorem xd_ix {X : Cx} : IxR X (r2 (sx X) dIx) := IxR.im ix_seq fun x y H Q ⟨W, cs, d, e, r, s, rx, ry, h, k⟩ => by
  unfold dIx at h
  split at h
  · rename_i z i
    cases rep_int ry
    obtain ⟨rfl, hl⟩ := rep_str rx
    cases q : atI z.cps.toList i with
    | none => rw [q] at h; cases h
    | some c =>
      rw [q] at h
      cases h
      exact E.g_ixS hl q (k W _ H (Le.refl _) rfl s (.str (show (1 : Nat) ≤ sizeLine by decide)))
  · cases rep_int ry
    split at h
    · rename_i ys q
      obtain ⟨a, us, rfl, hs, ra⟩ := seq_ok s rx q
      obtain ⟨u, hu, ru⟩ := atI_map (R := Rep (sx X) W) ra.length (fun n y hy => ra.get hy) h
      have kk := k W u H (Le.refl _) rfl s ru
      rcases hs with hs | hs
      · exact E.g_ixL hs hu kk
      · exact E.g_ixT hs hu kk
    · cases h
  · cases h
/-! in -/
def flatD : D → Bool
  | .non => true
  | .bl _ => true
  | .int _ => true
  | .str _ => true
  | _ => false
def eqF : D → D → Bool
  | .non, .non => true
  | .bl a, .bl b => a == b
  | .bl a, .int b => (if a then 1 else 0) == b
  | .int a, .bl b => a == (if b then 1 else 0)
  | .int a, .int b => a == b
  | .str a, .str b => a == b
  | _, _ => false
section
variable {Z : Sx} {W : Wd}
theorem flat_ok {v : V} {d : D} (r : Rep Z W v d) (h : flatD d = true) : flatV v = true := by
  cases r <;> first | rfl | cases h
theorem eqF_ok {v u : V} {d e : D} (r : Rep Z W v d) (q : Rep Z W u e) (h : flatD d = true) (h' : flatD e = true) : eqV v u = eqF d e := by
  cases r <;> first | (cases h; done) | (cases q <;> first | rfl | (cases h'; done))
theorem flats_ok : ∀ {vs : List V} {ds : List D}, RepA Z W vs ds → ds.all flatD = true → vs.all flatV = true
  | _, _, .nil, _ => rfl
  | _, _, .cons r t, h => by
    rw [List.all_cons, Bool.and_eq_true] at h ⊢
    exact ⟨flat_ok r h.1, flats_ok t h.2⟩
theorem inF_ok {u : V} {e : D} (q : Rep Z W u e) (h' : flatD e = true) : ∀ {vs : List V} {ds : List D}, RepA Z W vs ds → ds.all flatD = true → (vs.any fun y => eqV y u) = ds.any fun y => eqF y e
  | _, _, .nil, _ => rfl
  | _, _, .cons r t, h => by
    rw [List.all_cons, Bool.and_eq_true] at h
    rw [List.any_cons, List.any_cons, eqF_ok r q h.1 h', inF_ok q h' t h.2]
end
def inB (cs : Cells) (x y : D) : Option Bool := match x, y with
  | .str a, .str b => match a.cps.toList with
    | [c] => some (decide (c ∈ b.cps.toList))
    | _ => none
  | x, y => match seqOf cs y with
    | some ys => if (flatD x && ys.all flatD) = true then some (ys.any fun y => eqF y x) else none
    | none => none
theorem inB_ok {Z : Sx} {W : Wd} {cs : Cells} {H : Hp} {x y : V} {d e : D} {b : Bool} (s : S Z W cs H) (rx : Rep Z W x d) (ry : Rep Z W y e) (h : inB cs d e = some b) :
    (∃ (c : Nat) (w : Str), x = .str ⟨#[c]⟩ ∧ y = .str w ∧ b = decide (c ∈ w.cps.toList)) ∨ ∃ p xs, y = .ref p ∧ (SqL Z.K H p xs ∨ SqT Z.K H p xs) ∧ flatV x = true ∧ xs.all flatV = true ∧ b = inV x xs := by
  unfold inB at h
  split at h
  · rename_i a w
    split at h
    · rename_i c hc
      cases h
      obtain ⟨rfl, _⟩ := rep_str rx
      obtain ⟨rfl, _⟩ := rep_str ry
      obtain ⟨⟨l⟩⟩ := a
      have hc' : l = [c] := hc
      subst hc'
      exact .inl ⟨c, w, rfl, rfl, rfl⟩
    · cases h
  · split at h
    · rename_i ys q
      split at h
      · rename_i c
        cases h
        obtain ⟨c1, c2⟩ := Bool.and_eq_true_iff.mp c
        obtain ⟨a, us, rfl, hs, ra⟩ := seq_ok s ry q
        exact .inr ⟨a, us, rfl, hs, flat_ok rx c1, flats_ok ra c2, (inF_ok rx c1 ra c2).symm⟩
      · cases h
    · cases h
def dIn (cs : Cells) (x y : D) : Option D := (inB cs x y).map .bl
section
variable {X : Cx}
theorem od_in : OpR X (compareOp .In) (r2 (sx X) dIn) := OpR.im (OpR.or op_in_sign op_in_seq) fun x y H Q ⟨W, cs, d, e, r, s, rx, ry, h, k⟩ => by
  unfold dIn at h
  cases q : inB cs d e with
  | none => rw [q] at h; cases h
  | some b =>
    rw [q] at h
    cases h
    have kk := k W (.bl b) H (Le.refl _) rfl s (.bl b)
    rcases inB_ok s rx ry q with ⟨c, w, h1, h2, rfl⟩ | ⟨p, xs, h1, h2, h3, h4, rfl⟩
    · exact Or.inl ⟨c, w, h1, h2, kk⟩
    · exact Or.inr ⟨p, xs, h1, h2, h3, h4, kk⟩
end
/-! list(x), tuple(x), int, abs, min, max, all, any -/
def dList (cs : Cells) : List D → Option D
  | [d] => (seqOf cs d).map .lst
  | _ => none
def dTuple (cs : Cells) : List D → Option D
  | [d] => (seqOf cs d).map .tup
  | _ => none
def dInt (_ : Cells) : List D → Option D
  | [.int i] => some (.int i)
  | [.bl b] => some (.int (if b = true then 1 else 0))
  | _ => none
def dAbs (_ : Cells) : List D → Option D
  | [.int i] => some (.int (if i < 0 then -i else i))
  | _ => none
def dMin (_ : Cells) : List D → Option D
  | [.int i, .int j] => some (.int (if j < i then j else i))
  | _ => none
def dMax (_ : Cells) : List D → Option D
  | [.int i, .int j] => some (.int (if j > i then j else i))
  | _ => none
def lsR (cs : Cells) : D → Option (List D)
  | .lst xs => some xs
  | .wls xs => some xs
  | .cel n => celL cs n
  | _ => none
section
variable {Z : Sx} {W : Wd} {cs : Cells} {H : Hp} {v : V} {d : D} {ds : List D}
end
section
variable {X : Cx}
theorem cd_int : CallR X (.type "int") (rN (sx X) dInt) := CallR.im E.call_int fun xs H Q ⟨W, cs, ds, r, s, rx, h, k⟩ => by
  unfold dInt at h
  split at h
  · cases h
    cases rx with
    | cons r1 r2 => cases r2; cases rep_int r1; exact E.g_int (k W _ H (Le.refl _) rfl s (.int _))
  · cases h
    cases rx with
    | cons r1 r2 => cases r2; cases rep_bl r1; exact E.g_intB (k W _ H (Le.refl _) rfl s (.int _))
  · cases h
theorem cd_abs : CallR X (.builtin "abs") (rN (sx X) dAbs) := CallR.im E.call_absR fun xs H Q ⟨W, cs, ds, r, s, rx, h, k⟩ => by
  unfold dAbs at h
  split at h
  · cases h
    cases rx with
    | cons r1 r2 => cases r2; cases rep_int r1; exact E.g_abs (k W _ H (Le.refl _) rfl s (.int _))
  · cases h
theorem cd_min (hc : X.calm = true) : CallR X (.builtin "min") (rN (sx X) dMin) := CallR.im (E.call_min hc) fun xs H Q ⟨W, cs, ds, r, s, rx, h, k⟩ => by
  unfold dMin at h
  split at h
  · cases h
    cases rx with
    | cons r1 r2 => cases r2 with | cons r2 r3 => cases r3; cases rep_int r1; cases rep_int r2; exact E.g_min (k W _ H (Le.refl _) rfl s (.int _))
  · cases h
theorem cd_max (hc : X.calm = true) : CallR X (.builtin "max") (rN (sx X) dMax) := CallR.im (E.call_max hc) fun xs H Q ⟨W, cs, ds, r, s, rx, h, k⟩ => by
  unfold dMax at h
  split at h
  · cases h
    cases rx with
    | cons r1 r2 => cases r2 with | cons r2 r3 => cases r3; cases rep_int r1; cases rep_int r2; exact E.g_max (k W _ H (Le.refl _) rfl s (.int _))
  · cases h
end
/-! join -/
def strsOf : List D → Option (List Str)
  | [] => some []
  | .str x :: r => (strsOf r).map (x :: ·)
  | _ => none
def asS : D → EM Str
  | .str x => rt x
  | _ => no
theorem asS_ok {d : D} {cs : Cells} {Q : Str → Cells → Prop} {E : Exn → Cells → Prop} (h : wp (asS d) cs Q E) : ∃ b, d = .str b ∧ Q b cs := by
  cases d <;> first | exact ⟨_, rfl, h⟩ | exact h.elim
def joinD (a : Str) (y : D) (cs : Cells) : Option D := match seqOf cs y with
  | some ys => match strsOf ys with
    | some zs => if (decide ((zs.map (·.length)).sum + zs.length * a.length ≤ 1000000) && fitB (Txt.join a zs).length) = true then some (.str (Txt.join a zs)) else none
    | none => none
  | none => none
def xJoin (fo fe : XE) : XE := fun l => bd (fo l) fun x => bd (asS x) fun a => bd (fe l) fun y => rd (joinD a y)
section
variable {X : Cx} {z : ZT} {o e : Expr} {fo fe : XE}
end
/-! slices -/
def cutD (xs : List D) (lo hi : Option Int) : List D := (xs.drop (HT.sIx xs.length 0 lo)).take (HT.sIx xs.length xs.length hi - HT.sIx xs.length 0 lo)
theorem RepA.cut {Z : Sx} {W : Wd} {vs : List V} {ds : List D} (r : RepA Z W vs ds) (lo hi : Option Int) : RepA Z W (cutV vs lo hi) (cutD ds lo hi) := by
  unfold cutV cutD
  rw [r.length]
  exact (r.drop _).take _
def slD (d : D) (lo hi : Option Int) (cs : Cells) : Option D := match d with
  | .str x => some (.str (cutS x lo hi))
  | .tup xs => some (.tup (cutD xs lo hi))
  | d => (lsR cs d).map fun xs => .lst (cutD xs lo hi)
abbrev XO := Loc → EM (Option Int)
def asI : D → EM (Option Int)
  | .int i => rt (some i)
  | _ => no
theorem asI_ok {d : D} {cs : Cells} {Q : Option Int → Cells → Prop} {E : Exn → Cells → Prop} (h : wp (asI d) cs Q E) : ∃ b, d = .int b ∧ Q (some b) cs := by
  cases d <;> first | exact ⟨_, rfl, h⟩ | exact h.elim
def oNone : XO := fun _ => rt none
def oSome (f : XE) : XO := fun l => bd (f l) asI
def xSl (f : XE) (lo hi : XO) : XE := fun l => bd (f l) fun d => bd (lo l) fun a => bd (hi l) fun b => rd (slD d a b)
section
variable {X : Cx} {z : ZT} {e : Expr} {o1 o2 : Option Expr} {fe : XE} {f1 f2 : XO} {p2 pos : Pos}
end
section
variable {X : Cx} {z : ZT} {e : Expr} {fe : XE} {k : Nat} {p1 p2 p3 pos : Pos}
end
/-! isinstance -/
inductive Tag where
  | b (n : String) | c (x : Str)
  deriving DecidableEq
def tagOf (cs : Cells) : D → Option Tag
  | .non => some (.b "NoneType")
  | .bl _ => some (.b "bool")
  | .int _ => some (.b "int")
  | .str _ => some (.b "str")
  | .tup _ => some (.b "tuple")
  | .lst _ => some (.b "list")
  | .wls _ => some (.b "list")
  | .ins c _ => some (.c c)
  | .cel n => match cs[n]? with
    | some (.lst _) => some (.b "list")
    | some (.ins c _) => some (.c c)
    | some (.dct _) => some (.b "dict")
    | _ => none
  | .dct _ => some (.b "dict")
  | _ => none
def tyKnown : List String := ["NoneType", "bool", "int", "str", "tuple", "list", "dict"]
def tyAsked : List String := ["bool", "int", "str", "tuple", "list", "dict"]
def isiB (n m : String) : Option Bool := if n ∈ tyKnown ∧ m ∈ tyAsked then some (decide (n = m) || (decide (n = "bool") && decide (m = "int"))) else none
end F

/-! statements -/
namespace F
open PySem PySem.Spec PyProof.Rows L2 Evl
def onE {α : Type} (m : EM α) (l : Loc) (cs : Cells) (k : α → Cells → SO) : SO := match m cs with
  | .ok a cs' => k a cs'
  | .exc x cs' => .go (.ex x l) cs'
  | .no => .no
theorem wpS_onE {α : Type} {m : EM α} {l : Loc} {cs : Cells} {k : α → Cells → SO} {Q : Fl → Cells → Prop} : wpS (onE m l cs k) Q ↔ wp m cs (fun a cs' => wpS (k a cs') Q) fun x cs' => Q (.ex x l) cs' := by
  unfold onE wp
  cases m cs <;> exact Iff.rfl
def sNx : XS := fun l cs => .go (.nx l) cs
def sSeq (f g : XS) : XS := fun l cs => match f l cs with
  | .go (.nx l') cs' => g l' cs'
  | r => r
theorem wpS_seq {f g : XS} {l : Loc} {cs : Cells} {Q : Fl → Cells → Prop} : wpS (sSeq f g l cs) Q ↔ wpS (f l cs) fun fl cs' => match fl with
    | .nx l' => wpS (g l' cs') Q
    | r => Q r cs' := by
  unfold sSeq
  cases f l cs with
  | no => exact Iff.rfl
  | go fl cs' => cases fl <;> exact Iff.rfl
def sSet (i : Nat) (f : XE) : XS := fun l cs => onE (f l) l cs fun d cs' => .go (.nx (l.set i (.val d))) cs'
def sDrop (f : XE) : XS := fun l cs => onE (f l) l cs fun _ cs' => .go (.nx l) cs'
def sRet (f : XE) : XS := fun l cs => onE (f l) l cs fun d cs' => .go (.ret d) cs'
def sRetN : XS := fun _ cs => .go (.ret .non) cs
def sIf (t : XB) (f g : XS) : XS := fun l cs => onE (t l) l cs fun b cs' => if b = true then f l cs' else g l cs'
def sCt : XS := fun l cs => .go (.ct l) cs
section
variable {Z : Sx} {z : ZT} {B : Wd} {W W' : Wd} {l : Loc} {σ : L2.St} {H : Hp} {cs : Cells}
theorem LR.set {i : Nat} {v : V} {d : D} (h : LR Z z B W l σ) (r : Rep Z W v d) : LR Z z B W (l.set i (.val d)) (σ.set i (some v)) where
  len := by rw [List.length_set, List.length_set]; exact h.len
  sl := fun j s e => by
    by_cases hj : j = i
    · subst hj
      have hlt : j < l.length := by
        have := (List.getElem?_eq_some_iff.mp e).1
        rw [List.length_set] at this
        exact this
      rw [List.getElem?_set_self hlt] at e
      cases e
      exact ⟨v, by rw [List.getElem?_set_self (by rw [← h.len]; exact hlt)], r⟩
    · rw [List.getElem?_set_ne (Ne.symm hj)] at e ⊢
      exact h.sl j s e
  dj := fun j k c c' a h1 h2 h3 h4 => by
    have ne : ∀ {m : Nat} {cc : C}, (l.set i (.val d))[m]? = some (.own cc) → m ≠ i := fun {m cc} e z => by
      subst z
      have hlt : m < l.length := by
        have := (List.getElem?_eq_some_iff.mp e).1
        rw [List.length_set] at this
        exact this
      rw [List.getElem?_set_self hlt] at e
      cases e
    have n1 := ne h1
    have n2 := ne h2
    rw [List.getElem?_set_ne (Ne.symm n1)] at h1 h3
    rw [List.getElem?_set_ne (Ne.symm n2)] at h2 h4
    exact h.dj j k c c' a h1 h2 h3 h4
  base := h.base
theorem post_le {E : Exn → Loc → Cells → Prop} {D : Ends} (e : Le W W') : ∀ {fl : Fl} {cs : Cells}, post Z z B W E D fl cs → post Z z B W' E D fl cs
  | .nx _, _, h => fun W2 σ H le s lr => h W2 σ H (e.trans le) s lr
  | .bk _, _, h => fun W2 σ H le s lr => h W2 σ H (e.trans le) s lr
  | .ct _, _, h => fun W2 σ H le s lr => h W2 σ H (e.trans le) s lr
  | .ret _, _, h => fun W2 v H le s o r => h W2 v H (e.trans le) s o r
  | .ex _ _, _, h => h
end
section
variable {X : Cx} {z : ZT} {st : Stmt} {sts : List Stmt} {e c : Expr} {fe : XE} {tc : XB} {f g : XS} {pos : Pos}
theorem js_set {i : Nat} (hp : ∀ {t : TE}, PE X e t → PS X st (tAsg t (gName i))) (h : JE X z e fe) : JS X z st (sSet i fe) := ⟨fun B E tk => ps_imp (hp (h.run B E tk)) fun D σ H ⟨W, cs, l, s, lr, w⟩ =>
  ⟨W, cs, l, s, lr, wp_imp (wpS_onE.mp w) (fun d cs1 w1 W1 v1 H1 le1 o1 s1 r1 => w1 W1 _ H1 le1 s1 ((lr.mono le1 o1).set r1)) fun _ _ h => h⟩⟩
theorem js_drop (h : JE X z e fe) (hs : swapsWith e none pos.line X.env = pure false := by rfl) : JS X z (.Expr e pos) (sDrop fe) := ⟨fun B E tk => ps_imp (ps_expr (h.run B E tk) hs) fun D σ H ⟨W, cs, l, s, lr, w⟩ =>
  ⟨W, cs, l, s, lr, wp_imp (wpS_onE.mp w) (fun d cs1 w1 W1 v1 H1 le1 o1 s1 r1 => w1 W1 _ H1 le1 s1 (lr.mono le1 o1)) fun _ _ h => h⟩⟩
theorem js_ret (h : JE X z e fe) : JS X z (.Return (some e) pos) (sRet fe) := ⟨fun B E tk => ps_imp (ps_ret (h.run B E tk)) fun D σ H ⟨W, cs, l, s, lr, w⟩ =>
  ⟨W, cs, l, s, lr, wp_imp (wpS_onE.mp w) (fun d cs1 w1 W1 v1 H1 le1 o1 s1 r1 => w1 W1 v1 H1 le1 s1 (by rw [o1]; exact lr.base.2) r1) fun _ _ h => h⟩⟩
theorem jss_nil : JSs X z [] sNx := ⟨fun B E tk => pss_imp pss_nil fun D σ H ⟨W, cs, l, s, lr, w⟩ => w W σ H (Le.refl _) s lr⟩
theorem jss_one (h : JS X z st f) : JSs X z [st] f := ⟨fun B E tk => pss_one (h.run B E tk)⟩
theorem jss_cons (h : JS X z st f) (hr : JSs X z sts g) : JSs X z (st :: sts) (sSeq f g) := ⟨fun B E tk => pss_imp (pss_cons (h.run B E tk) (hr.run B E tk)) fun D σ H ⟨W, cs, l, s, lr, w⟩ => by
  refine ⟨W, cs, l, s, lr, wpS_imp (wpS_seq.mp w) fun fl cs1 w1 => ?_⟩
  cases fl with
  | nx l1 => exact fun W1 σ1 H1 le1 s1 lr1 => ⟨W1, cs1, l1, s1, lr1, wpS_imp w1 fun fl cs2 p => post_le le1 p⟩
  | _ => exact w1⟩
theorem js_if {a b : List Stmt} (hc : JT X z c tc) (ha : JSs X z a f) (hb : JSs X z b g) : JS X z (.If c a b pos) (sIf tc f g) := ⟨fun B E tk => ps_imp (ps_if (hc.run B E tk) (ha.run B E tk) (hb.run B E tk)) fun D σ H ⟨W, cs, l, s, lr, w⟩ => by
  refine ⟨W, cs, l, s, lr, wp_imp (wpS_onE.mp w) (fun k cs1 w1 W1 H1 le1 o1 s1 => ?_) fun _ _ h => h⟩
  cases k with
  | true => exact iteT ⟨W1, cs1, l, s1, lr.mono le1 o1, wpS_imp w1 fun fl cs2 p => post_le le1 p⟩
  | false => exact iteF ⟨W1, cs1, l, s1, lr.mono le1 o1, wpS_imp w1 fun fl cs2 p => post_le le1 p⟩⟩
end
/-! ### targets -/
abbrev XG := D → Loc → Cells → Option Loc
def gN (i : Nat) : XG := fun d l _ => some (l.set i (.val d))
/-- the slots but ts are the same -/
def Off (ts : List Nat) (σ σ' : L2.St) : Prop := σ'.length = σ.length ∧ ∀ j : Nat, j ∉ ts → σ'[j]? = σ[j]?
theorem Off.trans {ts us : List Nat} {σ σ1 σ2 : L2.St} (a : Off ts σ σ1) (b : Off us σ1 σ2) : Off (ts ++ us) σ σ2 := ⟨b.1.trans a.1, fun j h => (b.2 j fun z => h (List.mem_append_right _ z)).trans (a.2 j fun z => h (List.mem_append_left _ z))⟩
def tG (Z : Sx) (z : ZT) (B : Wd) (ts : List Nat) (g : XG) : TG := fun v σ H R => ∃ W cs l d l', S Z W cs H ∧ LR Z z B W l σ ∧ Rep Z W v d ∧ g d l cs = some l' ∧ ∀ σ', LR Z z B W l' σ' → Off ts σ σ' → R σ' H
structure JG (X : Cx) (z : ZT) (tg : Expr) (ts : List Nat) (g : XG) : Prop where
  run : ∀ B : Wd, PG X tg (tG (sx X) z B ts g)
abbrev XGs := List D → Loc → Cells → Option Loc
def tGs (Z : Sx) (z : ZT) (B : Wd) (ts : List Nat) (g : XGs) : TGs := fun vs σ H R => ∃ W cs l ds l', S Z W cs H ∧ LR Z z B W l σ ∧ RepA Z W vs ds ∧ g ds l cs = some l' ∧ ∀ σ', LR Z z B W l' σ' → Off ts σ σ' → R σ' H
structure JGs (X : Cx) (z : ZT) (tg : List Expr) (ts : List Nat) (g : XGs) : Prop where
  run : ∀ B : Wd, PGs X tg (tGs (sx X) z B ts g)
def gsNil : XGs := fun ds l _ => match ds with
  | [] => some l
  | _ => none
def gsCons (g : XG) (h : XGs) : XGs := fun ds l cs => match ds with
  | d :: r => match g d l cs with
    | some l' => h r l' cs
    | none => none
  | [] => none
def gT (n : Nat) (g : XGs) : XG := fun d l cs => match d with
  | .tup ds => if ds.length = n then g ds l cs else none
  | _ => none
section
variable {X : Cx} {z : ZT} {tg : Expr} {tgs : List Expr} {g : XG} {gs : XGs} {pos : Pos}
theorem pg_im {t t' : TG} (h : PG X tg t) (k : ∀ v σ H R, t' v σ H R → t v σ H R) : PG X tg t' := ⟨fun pins s σ H v u Q I r q => h.run pins s σ H v u Q I r (k _ _ _ _ q)⟩
theorem pgs_im {t t' : TGs} (h : PGs X tgs t) (k : ∀ v σ H R, t' v σ H R → t v σ H R) : PGs X tgs t' := ⟨fun pins s σ H v u Q I r q => h.run pins s σ H v u Q I r (k _ _ _ _ q)⟩
theorem jg_name {i : Nat} (h : PG X tg (gName i)) : JG X z tg [i] (gN i) := ⟨fun B => pg_im h fun v σ H R ⟨W, cs, l, d, l', s, lr, r, e, k⟩ => by
  cases e
  exact k _ (lr.set r) ⟨List.length_set .., fun j h => List.getElem?_set_ne (fun z => h (by simp [z]))⟩⟩
theorem jgs_nil : JGs X z [] [] gsNil := ⟨fun B => pgs_im pgs_nil fun vs σ H R ⟨W, cs, l, ds, l', s, lr, r, e, k⟩ => by
  cases r with
  | nil => cases e; exact ⟨rfl, k _ lr ⟨rfl, fun _ _ => rfl⟩⟩
  | cons _ _ => cases e⟩
theorem jgs_cons {ts us : List Nat} (h1 : JG X z tg ts g) (h2 : JGs X z tgs us gs) (hs : (assignEach (tg :: tgs) X.env).map (·.2) = assign tg X.env :: (assignEach tgs X.env).map (·.2) := by rfl) : JGs X z (tg :: tgs) (ts ++ us) (gsCons g gs) := ⟨fun B => pgs_im (pgs_cons (h1.run B) (h2.run B) hs) fun vs σ H R ⟨W, cs, l, ds, l', s, lr, r, e, k⟩ => by
  cases r with
  | nil => cases e
  | cons r1 r2 =>
    unfold gsCons at e
    dsimp only at e
    split at e
    · rename_i l1 q
      exact ⟨_, _, rfl, W, cs, l, _, l1, s, lr, r1, q, fun σ1 lr1 o1 => ⟨W, cs, l1, _, l', s, lr1, r2, e, fun σ2 lr2 o2 => k σ2 lr2 (o1.trans o2)⟩⟩
    · cases e⟩
end
/-- target = value -/
def sAsg (f : XE) (g : XG) : XS := fun l cs => onE (f l) l cs fun d cs' => match g d l cs' with
  | some l' => .go (.nx l') cs'
  | none => .no
/-! ### what is walked -/
/-- J walks ds while W stands -/
def Walks (Z : Sx) (W : Wd) (J : It) (ds : List D) : Prop := ∀ W1 cs H, Le W W1 → S Z W1 cs H → ∀ i : Nat, (∀ d, ds[i]? = some d → J.go i H ∧ ∀ x H', J.yld i H x H' → ∃ W2, Le W1 W2 ∧ W2.O = W1.O ∧ S Z W2 cs H' ∧ Rep Z W2 x d) ∧ (ds.length ≤ i → J.stop i H)
theorem Walks.mono {Z : Sx} {W W' : Wd} {J : It} {ds : List D} (h : Walks Z W J ds) (e : Le W W') : Walks Z W' J ds := fun W1 cs H le => h W1 cs H (e.trans le)
def tIx (Z : Sx) (z : ZT) (B : Wd) (f : XA) (E : Exn → Loc → Cells → Prop) : TI := fun σ H R => ∃ W cs l, S Z W cs H ∧ LR Z z B W l σ ∧
  wp (f l) cs (fun ds cs' => ∀ W' J H', Le W W' → W'.O = W.O → S Z W' cs' H' → Walks Z W' J ds → R J H') (fun x cs' => E x l cs')
structure JI (X : Cx) (z : ZT) (tg e : Expr) (f : XA) : Prop where
  run : ∀ (B : Wd) (E : Exn → Loc → Cells → Prop), Tkz z X (wx (sx X) z B E) → PI X tg e (tIx (sx X) z B f E)
/-- a list or a tuple that stands -/
def frzL : D → Option (List D)
  | .lst xs => some xs
  | .wls xs => some xs
  | .tup xs => some xs
  | _ => none
def iSeq (f : XE) : XA := fun l => bd (f l) fun d => rd fun _ => frzL d
def iStr (f : XE) : XA := fun l => bd (f l) fun d => bd (asS d) fun x => rt (x.cps.toList.map fun c => D.str ⟨#[c]⟩)
def cRng (j : Int) : Bool := decide (j < 1000000)
def iRng (f : XE) : XA := fun l => bd (f l) fun d => bd (asI d) fun o => match o with
  | some j => if (decide (-1000000 < j) && cRng j) = true then rt ((List.range j.toNat).map fun (i : Nat) => D.int i) else no
  | none => no
def numbered : Nat → List D → List D
  | _, [] => []
  | n, d :: ds => .tup [.int n, d] :: numbered (n + 1) ds
def iEnu (f : XE) : XA := fun l => bd (f l) fun d => rd fun _ => match d with
  | .lst xs => some (numbered 0 xs)
  | .wls xs => some (numbered 0 xs)
  | _ => none
section
variable {Z : Sx} {W : Wd}
theorem walks_r (lo : Int) (n : Nat) : Walks Z W (Itr lo n) ((List.range n).map fun (k : Nat) => D.int (lo + k)) := fun W1 cs H le s i => by
  refine ⟨fun d hd => ?_, fun hl => show n ≤ i by simpa using hl⟩
  rw [List.getElem?_map] at hd
  cases q : (List.range n)[i]? with
  | none => rw [q] at hd; cases hd
  | some c =>
    rw [q] at hd
    cases hd
    obtain ⟨h1, h2⟩ := List.getElem?_eq_some_iff.mp q
    rw [List.getElem_range] at h2
    subst h2
    rw [List.length_range] at h1
    refine ⟨h1, fun v H' y => ?_⟩
    obtain ⟨e, ev⟩ := y
    subst e ev
    exact ⟨W1, Le.refl _, rfl, s, .int _⟩
theorem numbered_get : ∀ (n i : Nat) (ds : List D), (numbered n ds)[i]? = (ds[i]?).map fun d => D.tup [.int ((n + i : Nat) : Int), d]
  | n, i, [] => by simp [numbered]
  | n, 0, d :: ds => by simp [numbered]
  | n, i + 1, d :: ds => by
    unfold numbered
    rw [List.getElem?_cons_succ, List.getElem?_cons_succ, numbered_get (n + 1) i ds]
    have e : n + 1 + i = n + (i + 1) := by omega
    rw [e]
theorem numbered_len : ∀ (n : Nat) (ds : List D), (numbered n ds).length = ds.length
  | _, [] => rfl
  | n, d :: ds => by unfold numbered; rw [List.length_cons, List.length_cons, numbered_len (n + 1) ds]
theorem walks_e {a : Addr} {xs : List V} {ds : List D} (h : SqL Z.K W.G a xs) (r : RepA Z W xs ds) : Walks Z W (IteN Z.K a) (numbered 0 ds) := fun W1 cs H le s i => by
  have hq : SqL Z.K H a xs := ex_l (le.g.trans s.g) h
  refine ⟨fun d hd => ?_, fun hl => ⟨xs, hq, by rw [r.length]; rw [numbered_len] at hl; exact hl⟩⟩
  rw [numbered_get] at hd
  cases q : ds[i]? with
  | none => rw [q] at hd; cases hd
  | some d0 =>
    rw [q] at hd
    cases hd
    obtain ⟨v, hv, rv⟩ := r.get q
    refine ⟨⟨xs, v, hq, hv⟩, fun x H' y => ?_⟩
    obtain ⟨u, ⟨T, ob, ex, fr, hd, eH⟩, y⟩ := y
    subst ex eH
    have hx := y xs hq
    rw [hv] at hx
    cases hx
    refine ⟨W1.new T _, s.leNew fr, rfl, s.new fr, .tup sqt_new (.cons ?_ (.cons ((rv.mono le).mono (s.leNew fr)) .nil)) (.new hd)⟩
    rw [Nat.zero_add]
    exact .int _
end
section
variable {X : Cx} {z : ZT} {tg e a b : Expr} {fe fa fb : XE} {p pos : Pos}
theorem pi_im {t t' : TI} (h : PI X tg e t) (k : ∀ σ H R, t' σ H R → t σ H R) : PI X tg e t' := ⟨fun pins s σ H Q I q => h.run pins s σ H Q I (k _ _ _ q)⟩
theorem ji_rng (hg : Gl X "range") (hm : X.mg "range" = none) (h : JE X z a fa) (hs : starEach [a] X.env = [(false, eval a X.env)] := by rfl) : JI X z tg (.Call (.Name "range" p) [a] [] pos) (iRng fa) := ⟨fun B Er tk => pi_im (pi_range1 hg hm ((ja_cons h ja_nil hs).run B Er tk) hs) fun σ H R ⟨W, cs, l, s, lr, w⟩ => by
  refine ⟨W, cs, l, s, lr, wp_bd.mpr (wp_imp (wp_bd.mp w) (fun d cs1 w1 => ?_) fun _ _ h => h)⟩
  obtain ⟨i, rfl, k⟩ := asI_ok (wp_bd.mp w1)
  intro W1 vs H1 le1 o1 s1 r1
  cases r1 with
  | cons r1 r2 =>
    cases r2
    cases rep_int r1
    by_cases c : (decide (-1000000 < i) && cRng i) = true
    · have k' : wp (rt ((List.range i.toNat).map fun (i : Nat) => D.int i)) cs1 (fun ds cs' => ∀ W' J H', Le W W' → W'.O = W.O → S (sx X) W' cs' H' → Walks (sx X) W' J ds → R J H') (fun x cs' => Er x l cs') := by
        dsimp only at k
        rw [if_pos c] at k
        exact k
      obtain ⟨c1, c2⟩ := Bool.and_eq_true_iff.mp c
      have c1' := of_decide_eq_true c1
      have c2' : i < 1000000 := of_decide_eq_true c2
      refine ⟨i, rfl, by omega, by omega, k' W1 _ H1 le1 o1 s1 ?_⟩
      have := walks_r (Z := sx X) (W := W1) 0 i.toNat
      simp only [Int.zero_add] at this
      exact this
    · dsimp only at k
      rw [if_neg c] at k
      exact k.elim⟩
end
/-! ### for -/
def forL (body : D → Loc → Cells → SO) : List D → Loc → Cells → SO
  | [], l, cs => .go (.nx l) cs
  | d :: ds, l, cs => match body d l cs with
    | .go (.nx l') cs' => forL body ds l' cs'
    | .go (.ct l') cs' => forL body ds l' cs'
    | .go (.bk l') cs' => .go (.nx l') cs'
    | r => r
def turn (g : XG) (b : XS) : D → Loc → Cells → SO := fun d l cs => match g d l cs with
  | some l' => b l' cs
  | none => .no
def sFor (f : XA) (g : XG) (b : XS) : XS := fun l cs => onE (f l) l cs fun ds cs' => forL (turn g b) ds l cs'
section
variable {X : Cx} {z : ZT} {tg iter : Expr} {body : List Stmt} {f : XA} {g : XG} {b : XS} {pos : Pos} {ts : List Nat}
theorem js_for (hp : PassesOwn (model X.prog X.w) X.A X.env X.xe) (hc : X.calm = true) (hi : JI X z tg iter f) (hg : JG X z tg ts g) (hb : JSs X z body b) (hs : ∀ x, foldedSetIterable iter X.env x = pure x := by intro _; rfl) :
    JS X z (.For tg iter body [] pos) (sFor f g b) := ⟨fun B Er tk => ps_imp (ps_for hp hc (hi.run B Er tk) (hg.run B) (hb.run B Er tk) hs) fun D σ H ⟨W, cs, l, s, lr, w⟩ => by
  refine ⟨W, cs, l, s, lr, wp_imp (wpS_onE.mp w) (fun ds cs1 w1 W1 J H1 le1 o1 s1 wk => ?_) fun _ _ h => h⟩
  refine ⟨fun i m σ H => ∃ W2 cs2 l2, Le W1 W2 ∧ S (sx X) W2 cs2 H ∧ LR (sx X) z B W2 l2 σ ∧ m = ds.length - i ∧ i ≤ ds.length ∧ wpS (forL (turn g b) (ds.drop i) l2 cs2) (post (sx X) z B W Er D),
    ⟨_, W1, cs1, l, Le.refl _, s1, lr.mono le1 o1, rfl, Nat.zero_le _, w1⟩, ?_⟩
  rintro i m σ H ⟨W2, cs2, l2, le2, s2, lr2, rfl, hi, w2⟩
  obtain ⟨go, stop⟩ := wk W2 cs2 H le2 s2 i
  by_cases hlt : i < ds.length
  · refine .inr ?_
    have hd : ds[i]? = some ds[i] := List.getElem?_eq_getElem hlt
    obtain ⟨g1, y1⟩ := go _ hd
    rw [List.drop_eq_getElem_cons hlt] at w2
    refine ⟨g1, fun σ' H' => ∃ W3 cs3 l3, Le W1 W3 ∧ S (sx X) W3 cs3 H' ∧ LR (sx X) z B W3 l3 σ' ∧ wpS (forL (turn g b) (ds.drop (i + 1)) l3 cs3) (post (sx X) z B W Er D), fun σ' H' ⟨W3, cs3, l3, le3, s3, lr3, w3⟩ => ⟨ds.length - (i + 1), by omega, W3, cs3, l3, le3, s3, lr3, rfl, hlt, w3⟩, fun x H' y => ?_⟩
    obtain ⟨W3, le3, o3, s3, r3⟩ := y1 x H' y
    have lr3 := lr2.mono le3 o3
    unfold forL turn at w2
    cases q : g ds[i] l2 cs2 with
    | none => rw [q] at w2; exact w2.elim
    | some l' =>
      rw [q] at w2
      dsimp only at w2
      refine ⟨W3, cs2, l2, _, l', s3, lr3, r3, q, fun σ' lr' _ => ⟨W3, cs2, l', s3, lr', ?_⟩⟩
      have le13 := le2.trans le3
      cases qb : b l' cs2 with
      | no => rw [qb] at w2; exact w2.elim
      | go fl cs' =>
        rw [qb] at w2
        cases fl with
        | nx l4 => exact fun W4 σ4 H4 le4 s4 lr4 => ⟨W4, cs', l4, le13.trans le4, s4, lr4, w2⟩
        | ct l4 => exact fun W4 σ4 H4 le4 s4 lr4 => ⟨W4, cs', l4, le13.trans le4, s4, lr4, w2⟩
        | bk l4 => exact fun W4 σ4 H4 le4 s4 lr4 => w2 W4 σ4 H4 ((le1.trans le13).trans le4) s4 lr4
        | ret d4 => exact fun W4 v4 H4 le4 s4 o4 r4 => w2 W4 v4 H4 ((le1.trans le13).trans le4) s4 o4 r4
        | ex x4 l4 => exact w2
  · have e : i = ds.length := by omega
    subst e
    rw [List.drop_length] at w2
    exact .inl ⟨stop (Nat.le_refl _), w2 W2 σ H (le1.trans le2) s2 lr2⟩⟩
end
end F

/-! comprehensions -/
namespace F
open PySem PySem.Spec PyProof.Rows L2 Evl
def nox {α : Type} (m : EM α) : EM α := fun cs => match m cs with
  | .ok a cs' => .ok a cs'
  | _ => .no
theorem wp_nox {α : Type} {m : EM α} {cs : Cells} {Q : α → Cells → Prop} {E E' : Exn → Cells → Prop} (h : wp (nox m) cs Q E) : wp m cs Q E' := by
  unfold wp nox at h
  unfold wp
  cases e : m cs with
  | ok a cs' => rw [e] at h; exact h
  | exc x cs' => rw [e] at h; exact h.elim
  | no => rw [e] at h; exact h
def wipeL (l : Loc) : List Nat → Loc
  | [] => l
  | v :: vs => (wipeL l vs).set v .emp
def compL (g : XG) (t : XB) (e : XE) (l : Loc) : List D → EM (List D)
  | [] => rt []
  | d :: ds => fun cs => match g d l cs with
    | some l1 => bd (nox (t l1)) (fun b => if b = true then bd (nox (e l1)) fun y => bd (compL g t e l ds) fun ys => rt (y :: ys) else compL g t e l ds) cs
    | none => .no
def xLc (f : XA) (g : XG) (t : XB) (e : XE) (vs : List Nat) : XE := fun l => bd (f l) fun ds => bd (fit ds) fun _ => bd (compL g t e (wipeL l vs) ds) fun ys => rt (.lst ys)
def bYes : XB := fun _ => rt true
theorem wp_congr {α : Type} {m m' : EM α} {cs : Cells} {Q : α → Cells → Prop} {E : Exn → Cells → Prop} (e : m cs = m' cs) (h : wp m cs Q E) : wp m' cs Q E := by
  unfold wp at h ⊢
  rw [← e]
  exact h
theorem wp_comp {g : XG} {t : XB} {e : XE} {l : Loc} {d : D} {ds : List D} {cs : Cells} {Q : List D → Cells → Prop} {E : Exn → Cells → Prop} (h : wp (compL g t e l (d :: ds)) cs Q E) :
    ∃ l1, g d l cs = some l1 ∧ wp (t l1) cs (fun b cs1 => if b = true then wp (e l1) cs1 (fun y cs2 => wp (compL g t e l ds) cs2 (fun ys cs3 => Q (y :: ys) cs3) E) (fun _ _ => False) else wp (compL g t e l ds) cs1 Q E) fun _ _ => False := by
  cases q : g d l cs with
  | none =>
    have e : compL g t e l (d :: ds) cs = (no : EM (List D)) cs := by
      show (match g d l cs with | some l1 => _ | none => Out.no) = Out.no
      rw [q]
    exact (wp_congr e h).elim
  | some l1 =>
    have e : compL g t e l (d :: ds) cs = bd (nox (t l1)) (fun b => if b = true then bd (nox (e l1)) fun y => bd (compL g t e l ds) fun ys => rt (y :: ys) else compL g t e l ds) cs := by
      show (match g d l cs with | some l1 => _ | none => Out.no) = _
      rw [q]
    refine ⟨l1, rfl, wp_nox (E := E) (wp_imp (wp_bd.mp (wp_congr e h)) (fun b cs1 w => ?_) fun _ _ h => h)⟩
    cases b with
    | true => exact iteT (wp_nox (E := E) (wp_imp (wp_bd.mp w) (fun y cs2 w2 => wp_imp (wp_bd.mp w2) (fun ys cs3 w3 => w3) fun _ _ h => h) fun _ _ h => h))
    | false => exact iteF w
theorem Le.own (W : Wd) (O' : Hp) : Le W { W with O := O' } := ⟨Ex.refl _, fun _ _ h => h⟩
theorem Le.frz (W : Wd) {p : Addr} {o : HO} {O' : Hp} (h : W.G p = none) : Le W { W with G := upd W.G p o, O := O' } := ⟨Ex.new h, fun _ _ h => h⟩
section
variable {Z : Sx} {z : ZT} {B : Wd} {W W' : Wd} {l : Loc} {σ : L2.St} {H : Hp} {cs : Cells}
theorem LR.emp1 {i : Nat} (h : LR Z z B W l σ) : LR Z z B W (l.set i .emp) (σ.set i none) where
  len := by rw [List.length_set, List.length_set]; exact h.len
  sl := fun j s e => by
    by_cases hj : j = i
    · subst hj
      have hlt : j < l.length := by
        have := (List.getElem?_eq_some_iff.mp e).1
        rw [List.length_set] at this
        exact this
      rw [List.getElem?_set_self hlt] at e
      cases e
      exact True.intro
    · rw [List.getElem?_set_ne (Ne.symm hj)] at e ⊢
      exact h.sl j s e
  dj := fun j k c c' a h1 h2 h3 h4 => by
    have ne : ∀ {m : Nat} {cc : C}, (l.set i .emp)[m]? = some (.own cc) → m ≠ i := fun {m cc} e z => by
      subst z
      have hlt : m < l.length := by
        have := (List.getElem?_eq_some_iff.mp e).1
        rw [List.length_set] at this
        exact this
      rw [List.getElem?_set_self hlt] at e
      cases e
    have n1 := ne h1
    have n2 := ne h2
    rw [List.getElem?_set_ne (Ne.symm n1)] at h1 h3
    rw [List.getElem?_set_ne (Ne.symm n2)] at h2 h4
    exact h.dj j k c c' a h1 h2 h3 h4
  base := h.base
theorem LR.wipe (h : LR Z z B W l σ) : ∀ vs : List Nat, LR Z z B W (wipeL l vs) (L2.wipe σ vs)
  | [] => h
  | v :: vs => (LR.wipe h vs).emp1
theorem wipe_in {σ : L2.St} {j : Nat} : ∀ {vs : List Nat}, j ∈ vs → j < σ.length → (L2.wipe σ vs)[j]? = some none
  | [], h, _ => nomatch h
  | v :: vs, h, hl => by
    unfold L2.wipe
    by_cases e : j = v
    · subst e
      rw [List.getElem?_set_self (by rw [wipe_length]; exact hl)]
    · rw [List.getElem?_set_ne (Ne.symm e)]
      exact wipe_in (by simpa [e] using h) hl
theorem wipe_off {ts vs : List Nat} {σ σ2 : L2.St} (o : Off ts (L2.wipe σ vs) σ2) (hs : ∀ t ∈ ts, t ∈ vs) : L2.wipe σ2 vs = L2.wipe σ vs := by
  refine List.ext_getElem? fun j => ?_
  have hl : σ2.length = σ.length := o.1.trans (wipe_length σ vs)
  by_cases hj : j ∈ vs
  · by_cases hlt : j < σ.length
    · rw [wipe_in hj hlt, wipe_in hj (by rw [hl]; exact hlt)]
    · rw [List.getElem?_eq_none (by rw [wipe_length, hl]; omega), List.getElem?_eq_none (by rw [wipe_length]; omega)]
  · rw [wipe_out hj]
    exact o.2 j fun z => hj (hs j z)
/-- an owned object is new -/
theorem S.ownNew {p : Addr} {o : HO} (s : S Z W cs H) (h : H p = none) : S Z { W with O := upd W.O p o } cs (upd H p o) where
  g := s.g.trans (Ex.new h)
  o := E.ex_upd s.o p o
  dj := fun a u e => by
    by_cases ha : a = p
    · rw [ha]; exact s.freeG h
    · rw [show ({ W with O := upd W.O p o } : Wd).O a = W.O a from upd_ne ha] at e
      exact s.dj a u e
  len := s.len
  nd := s.nd
  al := fun a ha => by
    obtain ⟨u, e⟩ := s.al a ha
    exact ⟨u, by rw [upd_ne (ne_of_none e h)]; exact e⟩
  fo := fun a ha => by
    obtain ⟨u, e⟩ := s.al a ha
    show upd W.O p o a = none
    rw [upd_ne (ne_of_none e h)]
    exact s.fo a ha
  at_ := fun n a c e1 e2 e3 => by
    obtain ⟨g, u, e, r⟩ := s.at_ n a c e1 e2 e3
    have ne : a ≠ p := ne_of_none e h
    exact ⟨g, u, by rw [upd_ne ne]; exact e, r.mono (Le.own W _)⟩
/-- an owned object changes -/
theorem S.ownPut {p : Addr} {o o' : HO} (s : S Z W cs H) (h : W.O p = some o) : S Z { W with O := upd W.O p o' } cs (upd H p o') where
  g := s.g.mut (s.dj p o h)
  o := E.ex_upd s.o p o'
  dj := fun a u e => by
    by_cases ha : a = p
    · rw [ha]; exact s.dj p o h
    · rw [show ({ W with O := upd W.O p o' } : Wd).O a = W.O a from upd_ne ha] at e
      exact s.dj a u e
  len := s.len
  nd := s.nd
  al := fun a ha => by
    obtain ⟨u, e⟩ := s.al a ha
    by_cases hp : a = p
    · exact ⟨o', by rw [hp, upd_same]⟩
    · exact ⟨u, by rw [upd_ne hp]; exact e⟩
  fo := fun a ha => by
    have ne : a ≠ p := fun z => by rw [z] at ha; rw [s.fo p ha] at h; cases h
    show upd W.O p o' a = none
    rw [upd_ne ne]
    exact s.fo a ha
  at_ := fun n a c e1 e2 e3 => by
    obtain ⟨g, u, e, r⟩ := s.at_ n a c e1 e2 e3
    have ne : a ≠ p := fun z => by
      have ha : a ∈ W.i := List.mem_of_getElem? e1
      rw [z] at ha
      rw [s.fo p ha] at h
      cases h
    exact ⟨g, u, by rw [upd_ne ne]; exact e, r.mono (Le.own W _)⟩
/-- an owned object stands from now on for good -/
theorem S.ownFrz {p : Addr} {o : HO} {O' : Hp} (s : S Z W cs H) (h : W.O p = some o) (ho : Ex O' W.O) (hp : O' p = none) : S Z { W with G := upd W.G p o, O := O' } cs H where
  g := fun a u e => by
    by_cases ha : a = p
    · subst ha
      rw [show ({ W with G := upd W.G a o, O := O' } : Wd).G a = some o from upd_same] at e
      cases e
      exact s.o _ _ h
    · rw [show ({ W with G := upd W.G p o, O := O' } : Wd).G a = W.G a from upd_ne ha] at e
      exact s.g a u e
  o := ho.trans s.o
  dj := fun a u e => by
    have e' : O' a = some u := e
    have ne : a ≠ p := fun z => by rw [z, hp] at e'; cases e'
    show upd W.G p o a = none
    rw [upd_ne ne]
    exact s.dj a u (ho a u e')
  len := s.len
  nd := s.nd
  al := s.al
  fo := fun a ha => by
    show O' a = none
    cases q : O' a with
    | none => rfl
    | some u => rw [← s.fo a ha, ho a u q]
  at_ := fun n a c e1 e2 e3 => by
    obtain ⟨g, u, e, r⟩ := s.at_ n a c e1 e2 e3
    have ne : a ≠ p := fun z => by
      have ha : a ∈ W.i := List.mem_of_getElem? e1
      rw [z] at ha
      rw [s.fo p ha] at h
      cases h
    refine ⟨by show upd W.G p o a = none; rw [upd_ne ne]; exact g, u, e, r.mono (Le.frz W (s.dj p o h))⟩
theorem takes_no {X : Cx} {z : ZT} {B : Wd} : Tkz z X (wx (sx X) z B fun _ _ _ => False) := Tkz.all fun u s' ⟨_, _, _, _, _, _, _, _, _, _, _, _, _, _, _, _, w⟩ => by
  obtain ⟨_, _, _, _, _, _, _, h⟩ := w
  exact h.elim
end
section
variable {X : Cx} {z : ZT} {B : Wd} {f : XA} {g : XG} {t : XB} {e : XE} {vs ts : List Nat} {Er : Exn → Loc → Cells → Prop} {σ : L2.St} {H : Hp} {Q : VK}
def lcM (f : XA) (g : XG) (t : XB) (e : XE) (vs : List Nat) (l : Loc) : EM (List D) := bd (f l) fun ds => bd (fit ds) fun _ => compL g t e (wipeL l vs) ds
/-- what the machine says of a comprehension is what the walk asks -/
theorem lc_gen (hs : ∀ t ∈ ts, t ∈ vs) (h : ∃ W cs l, S (sx X) W cs H ∧ LR (sx X) z B W l σ ∧ wp (lcM f g t e vs l) cs (fun ys cs' => ∀ W' Dd acc H', Le W W' → W.O Dd = none → B.O Dd = none → W'.O = upd W.O Dd (.lst acc) → S (sx X) W' cs' H' → RepA (sx X) W' acc ys → Q (.ref Dd) H') (fun x cs' => Er x l cs')) :
    tLc (tIx (sx X) z B f Er) (tG (sx X) z B ts g) (tB (sx X) z B t fun _ _ _ => False) (tE (sx X) z B e fun _ _ _ => False) vs σ H Q := by
  obtain ⟨W, cs, l, s, lr, w⟩ := h
  refine ⟨W, cs, l, s, lr, wp_imp (wp_bd.mp w) (fun ds cs1 w1 W1 J H1 le1 o1 s1 wk => ?_) fun _ _ h => h⟩
  obtain ⟨hfit, w1⟩ := wp_fit (wp_bd.mp w1)
  intro Dd hD
  have s2 := s1.ownNew (o := .lst []) hD
  have lr0 : LR (sx X) z B W1 (wipeL l vs) (wipe σ vs) := (lr.mono le1 o1).wipe vs
  have hBD : B.O Dd = none := fresh_back lr0.base.2 (s1.freeO hD)
  refine ⟨fun i m H => ∃ W2 cs2 acc accD, Le W1 W2 ∧ W2.O = upd W1.O Dd (.lst acc) ∧ S (sx X) W2 cs2 H ∧ RepA (sx X) W2 acc accD ∧ m = ds.length - i ∧ i ≤ ds.length ∧ acc.length ≤ i ∧
    wp (compL g t e (wipeL l vs) (ds.drop i)) cs2 (fun ys cs' => ∀ W' Dd acc H', Le W W' → W.O Dd = none → B.O Dd = none → W'.O = upd W.O Dd (.lst acc) → S (sx X) W' cs' H' → RepA (sx X) W' acc (accD ++ ys) → Q (.ref Dd) H') (fun x cs' => Er x l cs'),
    ⟨_, { W1 with O := upd W1.O Dd (.lst []) }, cs1, [], [], ⟨Ex.refl _, fun _ _ h => h⟩, rfl, s2, .nil, rfl, Nat.zero_le _, Nat.le_refl _, w1⟩, ?_⟩
  rintro i m H ⟨W2, cs2, acc, accD, le2, o2, s2, ra, rfl, hi, hacc, w2⟩
  have aD : W2.O Dd = some (.lst acc) := by rw [o2]; exact upd_same
  obtain ⟨go, stop⟩ := wk W2 cs2 H le2 s2 i
  by_cases hlt : i < ds.length
  · refine .inr ?_
    obtain ⟨g1, y1⟩ := go _ (List.getElem?_eq_getElem hlt)
    rw [List.drop_eq_getElem_cons hlt] at w2
    refine ⟨g1, fun H' => ∃ W3 cs3 acc accD, Le W1 W3 ∧ W3.O = upd W1.O Dd (.lst acc) ∧ S (sx X) W3 cs3 H' ∧ RepA (sx X) W3 acc accD ∧ acc.length ≤ i + 1 ∧
      wp (compL g t e (wipeL l vs) (ds.drop (i + 1))) cs3 (fun ys cs' => ∀ W' Dd acc H', Le W W' → W.O Dd = none → B.O Dd = none → W'.O = upd W.O Dd (.lst acc) → S (sx X) W' cs' H' → RepA (sx X) W' acc (accD ++ ys) → Q (.ref Dd) H') (fun x cs' => Er x l cs'),
      fun H' ⟨W3, cs3, a3, d3, h1, h2, h3, h4, h5, h6⟩ => ⟨ds.length - (i + 1), by omega, W3, cs3, a3, d3, h1, h2, h3, h4, rfl, hlt, h5, h6⟩, fun x H' y => ?_⟩
    obtain ⟨W3, le3, o3, s3, r3⟩ := y1 x H' y
    have e3 : W3.O = upd W1.O Dd (.lst acc) := o3.trans o2
    have lr3 : LR (sx X) z B W3 (wipeL l vs) (wipe σ vs) := ⟨lr0.len, fun j s h => by
      have q := lr0.sl j s h
      have le13 := le2.trans le3
      cases s with
      | emp => exact True.intro
      | val d => obtain ⟨u, h1, h2⟩ := q; exact ⟨u, h1, h2.mono le13⟩
      | own c =>
        obtain ⟨a, o, h1, h2, h3, h4⟩ := q
        have ne : a ≠ Dd := fun z => by rw [z, s1.freeO hD] at h2; cases h2
        exact ⟨a, o, h1, by rw [e3, upd_ne ne]; exact h2, h3, h4.mono le13⟩
      | me d => obtain ⟨a, h1, h2, h3⟩ := q; exact ⟨a, h1, h2, h3.mono le13⟩
      | exn x => obtain ⟨a, c, d, h1, h2, h3⟩ := q; exact ⟨a, c, d, h1, h2, h3.mono le13⟩, lr0.dj, lr0.base.1.trans (le2.trans le3), fun a u h => by
        have ne : a ≠ Dd := fun z => by rw [z, hBD] at h; cases h
        rw [e3, upd_ne ne]
        exact lr0.base.2 a u h⟩
    obtain ⟨l1, q, w2⟩ := wp_comp w2
    refine ⟨W3, cs2, wipeL l vs, _, l1, s3, lr3, r3, q, fun σ2 lr2 off => ⟨wipe_off off hs, W3, cs2, l1, s3, lr2, wp_imp w2 (fun b cs3 w3 W4 H4 le4 o4 s4 => ?_) fun _ _ h => h⟩⟩
    cases b with
    | true =>
      refine iteT ⟨W4, cs3, l1, s4, lr2.mono le4 o4, wp_imp w3 (fun y cs4 w4 W5 v H5 le5 o5 s5 r5 => ?_) fun _ _ h => h⟩
      have e5 : W5.O = upd W1.O Dd (.lst acc) := o5.trans (o4.trans e3)
      have a5 : W5.O Dd = some (.lst acc) := by rw [e5]; exact upd_same
      have l5 : Le W2 W5 := (le3.trans le4).trans le5
      refine ⟨acc, s5.o _ _ a5, Nat.lt_of_lt_of_le (Nat.lt_of_le_of_lt hacc hlt) hfit, { W5 with O := upd W5.O Dd (.lst (acc ++ [v])) }, cs4, acc ++ [v], accD ++ [y], (le2.trans l5).trans (Le.own W5 _), by
        show upd W5.O Dd _ = _
        rw [e5, upd_upd], s5.ownPut a5, ((ra.mono l5).append (.cons r5 .nil)).mono (Le.own W5 _), by rw [List.length_append]; simp; exact hacc, ?_⟩
      refine wp_imp w4 (fun ys cs' k => ?_) fun _ _ h => h
      rw [List.append_assoc]
      exact k
    | false =>
      have l4 : Le W2 W4 := le3.trans le4
      exact iteF ⟨W4, cs3, acc, accD, le2.trans l4, o4.trans e3, s4, ra.mono l4, by omega, w3⟩
  · have ei : i = ds.length := by omega
    subst ei
    rw [List.drop_length] at w2
    refine .inl ⟨stop (Nat.le_refl _), ?_⟩
    have w2' : ∀ W' Dd acc H', Le W W' → W.O Dd = none → B.O Dd = none → W'.O = upd W.O Dd (.lst acc) → S (sx X) W' cs2 H' → RepA (sx X) W' acc (accD ++ []) → Q (.ref Dd) H' := w2
    rw [List.append_nil] at w2'
    exact w2' W2 Dd acc H (le1.trans le2) (by rw [← o1]; exact s1.freeO hD) hBD (by rw [o2, o1]) s2 ra
theorem lc_read (hs : ∀ t ∈ ts, t ∈ vs) (h : tE (sx X) z B (xLc f g t e vs) Er σ H Q) :
    tLc (tIx (sx X) z B f Er) (tG (sx X) z B ts g) (tB (sx X) z B t fun _ _ _ => False) (tE (sx X) z B e fun _ _ _ => False) vs σ H Q := by
  obtain ⟨W, cs, l, s, lr, w⟩ := h
  refine lc_gen hs ⟨W, cs, l, s, lr, ?_⟩
  refine wp_bd.mpr (wp_imp (wp_bd.mp w) (fun ds cs1 w1 => ?_) fun _ _ h => h)
  refine wp_bd.mpr (wp_imp (wp_bd.mp w1) (fun _ cs2 w2 => ?_) fun _ _ h => h)
  refine wp_imp (wp_bd.mp w2) (fun ys cs3 w3 W' Dd acc H' le hO hB o' s' ra => ?_) fun _ _ h => h
  have aD : W'.O Dd = some (.lst acc) := by rw [o']; exact upd_same
  have hE : Ex W.O W'.O := by rw [o']; exact Ex.new hO
  exact w3 { W' with G := upd W'.G Dd (.lst acc), O := W.O } (.ref Dd) H' (le.trans (Le.frz W' (s'.dj Dd _ aD))) rfl (s'.ownFrz aD hE hO) (.lst upd_same (ra.mono (Le.frz W' (s'.dj Dd _ aD))))
end
section
variable {X : Cx} {z : ZT} {elt tg iter : Expr} {ifs : List Expr} {scope : Scope} {own : List (Str × Nat)} {pos : Pos} {f : XA} {g : XG} {t : XB} {e : XE} {ts : List Nat}
structure JTs (X : Cx) (z : ZT) (ifs : List Expr) (f : XB) : Prop where
  run : ∀ (B : Wd) (E : Exn → Loc → Cells → Prop), Tkz z X (wx (sx X) z B E) → PTs X ifs (tB (sx X) z B f E)
theorem jts_one {c : Expr} (h : JT X z c t) : JTs X z [c] t := ⟨fun B Er tk => pts_one (h.run B Er tk)⟩
end
end F

/-! cells, owned things, attributes -/
namespace F
open PySem PySem.Spec PyProof.Rows L2 Evl
section
variable {Z : Sx} {z : ZT} {B : Wd} {W W' : Wd} {l : Loc} {σ : L2.St} {H : Hp} {cs : Cells}
/-! ### cells -/
abbrev Wd.cel (W : Wd) (p : Addr) : Wd := { W with i := W.i ++ [p] }
theorem Le.cel (W : Wd) (p : Addr) : Le W (W.cel p) := ⟨Ex.refl _, fun n a h => by
  have hlt := (List.getElem?_eq_some_iff.mp h).1
  show (W.i ++ [p])[n]? = some a
  rw [List.getElem?_append_left hlt]
  exact h⟩
theorem S.cell {p : Addr} {o : HO} {c : C} (s : S Z W cs H) (h : H p = none) (r : RepC Z (W.cel p) p o c) : S Z (W.cel p) (cs ++ [c]) (upd H p o) where
  g := s.g.trans (Ex.new h)
  o := s.o.trans (Ex.new h)
  dj := s.dj
  len := by rw [List.length_append, List.length_append, s.len]; rfl
  nd := by
    show (W.i ++ [p]).Nodup
    refine List.nodup_append.mpr ⟨s.nd, by simp, fun a ha b hb => ?_⟩
    have eb : b = p := by simpa using hb
    subst eb
    exact fun z => s.freeI h (z ▸ ha)
  al := fun a ha => by
    rcases List.mem_append.mp ha with ha | ha
    · obtain ⟨u, e⟩ := s.al a ha
      exact ⟨u, by rw [upd_ne (ne_of_none e h)]; exact e⟩
    · have ea : a = p := by simpa using ha
      subst ea
      exact ⟨o, upd_same⟩
  fo := fun a ha => by
    rcases List.mem_append.mp ha with ha | ha
    · exact s.fo a ha
    · have ea : a = p := by simpa using ha
      subst ea
      exact s.freeO h
  at_ := fun n a c' e1 e2 e3 => by
    by_cases hn : n < cs.length
    · rw [List.getElem?_append_left hn] at e2
      have e1' : (W.i ++ [p])[n]? = some a := e1
      rw [List.getElem?_append_left (by rw [s.len]; exact hn)] at e1'
      obtain ⟨g, u, e, r'⟩ := s.at_ n a c' e1' e2 e3
      exact ⟨g, u, by rw [upd_ne (ne_of_none e h)]; exact e, r'.mono (Le.cel W p)⟩
    · have hl := (List.getElem?_eq_some_iff.mp e2).1
      rw [List.length_append] at hl
      have en : n = cs.length := by simp at hl; omega
      subst en
      rw [List.getElem?_append_right (Nat.le_refl _)] at e2
      simp at e2
      subst e2
      have e1' : (W.i ++ [p])[cs.length]? = some a := e1
      rw [← s.len, List.getElem?_append_right (Nat.le_refl _)] at e1'
      simp at e1'
      subst e1'
      exact ⟨s.freeG h, o, upd_same, r⟩
/-- a cell changes -/
theorem S.put {n : Nat} {a : Addr} {o : HO} {c c' : C} (s : S Z W cs H) (h : W.i[n]? = some a) (hc : cs[n]? = some c) (hd : c ≠ .dead) (r : RepC Z W a o c') : S Z W (cs.set n c') (upd H a o) where
  g := s.g.mut (s.at_ n a c h hc hd).1
  o := s.o.mut (s.fo a (List.mem_of_getElem? h))
  dj := s.dj
  len := by rw [List.length_set]; exact s.len
  nd := s.nd
  al := fun b hb => by
    by_cases e : b = a
    · exact ⟨o, by rw [e, upd_same]⟩
    · obtain ⟨u, q⟩ := s.al b hb
      exact ⟨u, by rw [upd_ne e]; exact q⟩
  fo := s.fo
  at_ := fun m b k e1 e2 e3 => by
    by_cases hm : m = n
    · subst hm
      rw [h] at e1
      cases e1
      rw [List.getElem?_set_self (List.getElem?_eq_some_iff.mp hc).1] at e2
      cases e2
      exact ⟨(s.at_ m a c h hc hd).1, o, upd_same, r⟩
    · rw [List.getElem?_set_ne (Ne.symm hm)] at e2
      obtain ⟨g, u, e, r'⟩ := s.at_ m b k e1 e2 e3
      have ne : b ≠ a := fun z => by
        subst z
        obtain ⟨h1, q1⟩ := List.getElem?_eq_some_iff.mp e1
        obtain ⟨h2, q2⟩ := List.getElem?_eq_some_iff.mp h
        exact hm ((List.getElem_inj s.nd).mp (q1.trans q2.symm))
      exact ⟨g, u, by rw [upd_ne ne]; exact e, r'⟩
end
def newC (c : C) : EM D := fun cs => .ok (.cel cs.length) (cs ++ [c])
theorem wp_newC {c : C} {cs : Cells} {Q : D → Cells → Prop} {E : Exn → Cells → Prop} : wp (newC c) cs Q E ↔ Q (.cel cs.length) (cs ++ [c]) := Iff.rfl
theorem rep_last {Z : Sx} {W : Wd} {cs : Cells} {H : Hp} {p : Addr} (s : S Z W cs H) : Rep Z (W.cel p) (.ref p) (.cel cs.length) := .cel (by
  show (W.i ++ [p])[cs.length]? = some p
  rw [← s.len, List.getElem?_append_right (Nat.le_refl _)]
  simp)
def xLstC (f : XA) : XE := fun l => bd (f l) fun ds => newC (.lst ds)
def xListC (f : XE) : XE := fun l => bd (f l) fun d => bd (rd fun cs => seqOf cs d) fun xs => newC (.lst xs)
section
variable {X : Cx} {z : ZT} {e : Expr} {es : List Expr} {fa : XE} {f : XA} {pos p : Pos}
theorem je_lstC (h : JL X z es f) (hl : es.length ≤ sizeLine := by decide +kernel) : JE X z (.List es pos) (xLstC f) := ⟨fun B Er tk => pe_imp (pe_lst (h.ja.run B Er tk)) fun σ H Q ⟨W, cs, l, s, lr, w⟩ => by
  refine ⟨W, cs, l, s, lr, wp_imp (wp_len (wp_bd.mp w) (h.len l cs)) (fun ds cs1 ⟨ln, w1⟩ W1 vs H1 le1 o1 s1 r1 => ?_) fun _ _ h => h⟩
  exact ⟨by rw [r1.length, ln]; exact hl, fun q hq => w1 _ _ _ (le1.trans (Le.cel W1 q)) o1 (s1.cell (c := .lst ds) hq ⟨vs, rfl, r1.mono (Le.cel W1 q)⟩) (rep_last s1)⟩⟩
end
/-- o[i] = v, o a cell -/
def setC (o i v : D) : EM Unit := fun cs => match o, i with
  | .cel n, .int k => match celL cs n with
    | some xs => match ixN xs.length k with
      | some j => .ok () (cs.set n (.lst (xs.set j v)))
      | none => .no
    | none => .no
  | _, _ => .no
def sSetI (fv fo fi : XE) : XS := fun l cs => onE (fv l) l cs fun v cs1 => onE (fo l) l cs1 fun o cs2 => onE (fi l) l cs2 fun i cs3 => onE (setC o i v) l cs3 fun _ cs4 => .go (.nx l) cs4
theorem js_setI {X : Cx} {z : ZT} {o i e : Expr} {fv fo fi : XE} {tpos pos : Pos} (ho : JE X z o fo) (hi : JE X z i fi) (hv : JE X z e fv)
    (ha : ∀ v, assign (.Subscript o i tpos) X.env v = (do
      let ov ← holding [v] (eval o X.env)
      let iv ← holding [v, ov] (eval i X.env)
      standAt tpos
      holding [v, ov, iv] (setItem ov iv v)
      release [v, ov, iv] []) := by intro _; rfl)
    (hs : swapsWithSole [.Subscript o i tpos] e pos.line X.env = pure false := by rfl) (hw : swappedStores [.Subscript o i tpos] e X.env = pure none := by rfl)
    (h1 : (assignEach [.Subscript o i tpos] X.env).map (·.2) = [assign (.Subscript o i tpos) X.env] := by rfl) : JS X z (.Assign [.Subscript o i tpos] e pos) (sSetI fv fo fi) :=
  ⟨fun B Er tk => ps_imp (ps_asg (hv.run B Er tk) (pg_sub (ho.run B Er tk) (hi.run B Er tk) set_list ha) hs hw h1) fun D σ H ⟨W, cs, l, s, lr, w⟩ => by
  refine ⟨W, cs, l, s, lr, wp_imp (wpS_onE.mp w) (fun v cs1 w1 W1 v1 H1 le1 o1 s1 r1 => ?_) fun _ _ h => h⟩
  refine ⟨W1, cs1, l, s1, lr.mono le1 o1, wp_imp (wpS_onE.mp w1) (fun o cs2 w2 W2 v2 H2 le2 o2 s2 r2 => ?_) fun _ _ h => h⟩
  refine ⟨W2, cs2, l, s2, lr.mono (le1.trans le2) (o2.trans o1), wp_imp (wpS_onE.mp w2) (fun i cs3 w3 W3 v3 H3 le3 o3 s3 r3 => ?_) fun _ _ h => h⟩
  have w4 := wpS_onE.mp w3
  unfold wp setC at w4
  split at w4
  case h_1 a cs4 q =>
    split at q
    · rename_i n k
      split at q
      · rename_i xs qx
        split at q
        · rename_i j qj
          cases q
          cases rep_int r3
          have r2' := r2.mono le3
          cases r2' with
          | cel hi =>
            obtain ⟨us, h1, ra, g, hc⟩ := celL_ok s3 hi qx
            exact ⟨_, us, k, j, rfl, rfl, h1, by rw [ra.length]; exact qj, w4 W3 σ _ ((le1.trans le2).trans le3) (s3.put hi hc (fun z => nomatch z) ⟨us.set j v1, rfl, ra.set (r1.mono (le2.trans le3)) j⟩) (lr.mono ((le1.trans le2).trans le3) (o3.trans (o2.trans o1)))⟩
        · cases q
      · cases q
    · cases q
  case h_2 x cs4 q =>
    split at q
    · split at q
      · split at q
        · cases q
        · cases q
      · cases q
    · cases q
  case h_3 => exact w4.elim⟩
section
variable {X : Cx} {z : ZT} {o e : Expr} {es : List Expr} {fo : XE} {f : XA} {r : V → List V → Hp → VK → Prop} {g : List D → List D → Option (List D)} {st : Stmt}
end
/-! ### owned things -/
section
variable {Z : Sx} {z : ZT} {B : Wd} {W W' : Wd} {l : Loc} {σ : L2.St} {H : Hp} {cs : Cells}
/-- slot i gets a new owned thing -/
theorem LR.ownNew {i : Nat} {p : Addr} {o : HO} {c : C} (h : LR Z z B W l σ) (s : S Z W cs H) (hp : H p = none) (r : RepC Z W p o c) (hc : isIns c = false := by rfl) : LR Z z B { W with O := upd W.O p o } (l.set i (.own c)) (σ.set i (some (.ref p))) := by
  have fO := s.freeO hp
  have fB : B.O p = none := fresh_back h.base.2 fO
  have old : ∀ {j : Nat} {s' : Sl}, l[j]? = some s' → SlOk Z z B { W with O := upd W.O p o } s' (σ[j]?) := fun {j s'} e => by
    have q := h.sl j s' e
    cases s' with
    | emp => exact True.intro
    | val d => obtain ⟨u, h1, h2⟩ := q; exact ⟨u, h1, h2.mono (Le.own W _)⟩
    | own c1 =>
      obtain ⟨b, o1, h4, h5, h6, h7⟩ := q
      have ne : b ≠ p := fun z => by rw [z, fO] at h5; cases h5
      exact ⟨b, o1, h4, by show upd W.O p o b = some o1; rw [upd_ne ne]; exact h5, h6, h7.mono (Le.own W _)⟩
    | me d => obtain ⟨b, h1, h2, h3⟩ := q; exact ⟨b, h1, h2, h3.mono (Le.own W _)⟩
    | exn x => obtain ⟨b, c1, d, h1, h2, h3⟩ := q; exact ⟨b, c1, d, h1, h2, h3.mono (Le.own W _)⟩
  have lt : ∀ {m : Nat} {s' : Sl}, (l.set i (.own c))[m]? = some s' → m < l.length := fun {m s'} e => by
    have := (List.getElem?_eq_some_iff.mp e).1
    rw [List.length_set] at this
    exact this
  have notp : ∀ {m : Nat} {c1 : C}, m ≠ i → l[m]? = some (.own c1) → σ[m]? ≠ some (some (.ref p)) := fun {m c1} _ e q => by
    obtain ⟨b, o1, h4, h5, _⟩ := h.sl m _ e
    rw [q] at h4
    cases h4
    rw [fO] at h5
    cases h5
  refine ⟨by rw [List.length_set, List.length_set]; exact h.len, fun j s' e => ?_, fun j k c1 c2 b h1 h2 h3 h4 => ?_, h.base.1.trans (Le.own W _), fun b u e => ?_⟩
  · by_cases hj : j = i
    · subst hj
      have hlt := lt e
      rw [List.getElem?_set_self hlt] at e
      cases e
      exact ⟨p, o, by rw [List.getElem?_set_self (by rw [← h.len]; exact hlt)], upd_same, ⟨fB, fun z => by rw [hc] at z; cases z⟩, r.mono (Le.own W _)⟩
    · rw [List.getElem?_set_ne (Ne.symm hj)] at e ⊢
      exact old e
  · by_cases hj : j = i
    · by_cases hk : k = i
      · rw [hj, hk]
      · subst hj
        rw [List.getElem?_set_self (by rw [← h.len]; exact lt h1)] at h3
        cases h3
        rw [List.getElem?_set_ne (Ne.symm hk)] at h2 h4
        exact absurd h4 (notp hk h2)
    · rw [List.getElem?_set_ne (Ne.symm hj)] at h1 h3
      by_cases hk : k = i
      · subst hk
        rw [List.getElem?_set_self (by rw [← h.len]; exact lt h2)] at h4
        cases h4
        exact absurd h3 (notp hj h1)
      · rw [List.getElem?_set_ne (Ne.symm hk)] at h2 h4
        exact h.dj j k c1 c2 b h1 h2 h3 h4
  · have ne : b ≠ p := fun z => by rw [z, fB] at e; cases e
    show upd W.O p o b = some u
    rw [upd_ne ne]
    exact h.base.2 b u e
end
end F

/-! the tables of classes; attributes; isinstance; owned lists, sets, instances; repr -/
namespace F
open PySem PySem.Spec PyProof.Rows L2 Evl
structure Tb where
  cis : List (Str × List Str) := []
  isi : List (Tag × Tag × Bool) := []
  con : List (Str × Str × D) := []
def Tb.fld (T : Tb) (c f : Str) : Bool := T.cis.any fun q => decide (q.1 = c) && q.2.any fun g => decide (g = f)
def Tb.cst (T : Tb) (c f : Str) : Option D := (T.con.find? fun q => decide (q.1 = c) && decide (q.2.1 = f)).map (·.2.2)
def Tb.is (T : Tb) (t u : Tag) : Option Bool := (T.isi.find? fun q => decide (q.1 = t) && decide (q.2.1 = u)).map (·.2.2)
def tagV (Z : Sx) : Tag → Option Value
  | .b n => some (.type n)
  | .c x => Z.mg x
structure TbOk (Z : Sx) (T : Tb) : Prop where
  cls : ∀ q ∈ T.cis, ∃ Cl, Z.mg q.1 = some (.ref Cl) ∧ E.ClsF Z.K Cl ∧ ∀ f ∈ q.2, NoAttr Z.K Cl f
  isi : ∀ q ∈ T.isi, ∃ t u, tagV Z q.1 = some t ∧ tagV Z q.2.1 = some u ∧ PySem.W.kitOne Z.K t u = some q.2.2
  con : ∀ q ∈ T.con, ∃ Cl v u, Z.mg q.1 = some (.ref Cl) ∧ Con Z.K Cl q.2.1 v u ∧ ∀ W, Rep Z W v q.2.2
section
variable {Z : Sx} {T : Tb} {c f : Str} {Cl : Addr}
theorem TbOk.fld_ok (t : TbOk Z T) (h : T.fld c f = true) (hm : Z.mg c = some (.ref Cl)) : E.ClsF Z.K Cl ∧ NoAttr Z.K Cl f := by
  unfold Tb.fld at h
  obtain ⟨q, hq, h1⟩ := List.any_eq_true.mp h
  obtain ⟨h2, h3⟩ := Bool.and_eq_true_iff.mp h1
  obtain ⟨g, hg, h4⟩ := List.any_eq_true.mp h3
  obtain ⟨Cl', m, k, n⟩ := t.cls q hq
  rw [of_decide_eq_true h2, hm] at m
  cases m
  rw [← of_decide_eq_true h4]
  exact ⟨k, n g hg⟩
theorem TbOk.is_ok (t : TbOk Z T) {x y : Tag} {b : Bool} (h : T.is x y = some b) : ∃ t u, tagV Z x = some t ∧ tagV Z y = some u ∧ PySem.W.kitOne Z.K t u = some b := by
  unfold Tb.is at h
  cases q : T.isi.find? fun q => decide (q.1 = x) && decide (q.2.1 = y) with
  | none => rw [q] at h; cases h
  | some r =>
    rw [q] at h
    cases h
    have hr := List.find?_some q
    obtain ⟨h2, h3⟩ := Bool.and_eq_true_iff.mp hr
    obtain ⟨t, u, h4, h5, h6⟩ := t.isi r (List.mem_of_find?_eq_some q)
    rw [of_decide_eq_true h2] at h4
    rw [of_decide_eq_true h3] at h5
    exact ⟨t, u, h4, h5, h6⟩
end
/-! ### attributes -/
def insOf (cs : Cells) : D → Option (Str × List (Str × D))
  | .ins c fs => some (c, fs)
  | .cel n => match cs[n]? with
    | some (.ins c fs) => some (c, fs)
    | _ => none
  | _ => none
def fldI (T : Tb) (c f : Str) (fs : List (Str × D)) : Option D := if T.fld c f = true then fs.lookup f else match T.cst c f with
  | some d => if (fs.lookup f).isNone = true then some d else none
  | none => none
/-- the class is known -/
def Tb.has (T : Tb) (c : Str) : Bool := T.cis.any fun q => decide (q.1 = c)
theorem TbOk.has_ok {Z : Sx} {T : Tb} {c : Str} {Cl : Addr} (t : TbOk Z T) (h : T.has c = true) (hm : Z.mg c = some (.ref Cl)) : E.ClsF Z.K Cl := by
  obtain ⟨q, hq, h1⟩ := List.any_eq_true.mp h
  obtain ⟨Cl', m, k, n⟩ := t.cls q hq
  rw [of_decide_eq_true h1, hm] at m
  cases m
  exact k
def attI (T : Tb) (c f : Str) (fs : List (Str × D)) : Option D := if T.has c = true then fldI T c f fs else none
def dAt (T : Tb) (f : Str) (cs : Cells) (d : D) : Option D := match insOf cs d with
  | some (c, fs) => attI T c f fs
  | none => none
/-- the same of a name that may own its instance -/
def xAtV (T : Tb) (i : Nat) (f : Str) : XE := fun l => match l[i]? with
  | some (.own (.ins c fs)) => rd fun _ => attI T c f fs
  | some (.val d) => rd fun cs => dAt T f cs d
  | some (.me d) => rd fun cs => dAt T f cs d
  | _ => no
section
variable {X : Cx} {z : ZT} {e : Expr} {fe : XE} {f : Str} {pos : Pos} {T : Tb}
end
/-- self.f = e, self an instance that the slot owns -/
def sFldO (T : Tb) (i : Nat) (f : Str) (fe : XE) : XS := fun l cs => onE (fe l) l cs fun d cs' => match l[i]? with
  | some (.own (.ins c fs)) => if (T.fld c f && decide (fs.length < 900)) = true then .go (.nx (l.set i (.own (.ins c (putD f d fs))))) cs' else .no
  | _ => .no
/-! ### what a slot owns stands for good from now on -/
theorem LR.frz {Z : Sx} {z : ZT} {B : Wd} {W : Wd} {l : Loc} {σ : L2.St} {H : Hp} {cs : Cells} {i : Nat} {a : Addr} {o : HO} {c : C} {d : Sl} (h : LR Z z B W l σ) (s : S Z W cs H) (hi : l[i]? = some (.own c)) (ha : σ[i]? = some (some (.ref a))) (hO : W.O a = some o)
    (nd : ∀ k, d ≠ .own k) (r : ∀ W', Le W W' → W'.G a = some o → SlOk Z z B W' d (some (some (.ref a)))) : ∃ W', Le W W' ∧ S Z W' cs H ∧ LR Z z B W' (l.set i d) σ := by
  have hB : B.O a = none := by
    obtain ⟨a', o', e, _, h3, _⟩ := h.sl i _ hi
    rw [ha] at e
    cases e
    exact h3.1
  have ex : Ex (fun b => if b = a then none else W.O b) W.O := fun b u e => by
    by_cases hb : b = a
    · exact absurd (show none = some u by rw [← e]; exact (if_pos hb).symm) (fun z => nomatch z)
    · rw [← e]; exact (if_neg hb).symm
  refine ⟨{ W with G := upd W.G a o, O := fun b => if b = a then none else W.O b }, Le.frz W (s.dj a o hO), s.ownFrz hO ex (if_pos rfl), ?_⟩
  have le : Le W { W with G := upd W.G a o, O := fun b => if b = a then none else W.O b } := Le.frz W (s.dj a o hO)
  refine ⟨by rw [List.length_set]; exact h.len, fun j s' e => ?_, fun j k c1 c2 b h1 h2 h3 h4 => ?_, h.base.1.trans le, fun b u e => ?_⟩
  · by_cases hj : j = i
    · subst hj
      rw [List.getElem?_set_self (List.getElem?_eq_some_iff.mp hi).1] at e
      cases e
      rw [ha]
      exact r _ le upd_same
    · rw [List.getElem?_set_ne (Ne.symm hj)] at e
      have q := h.sl j s' e
      cases s' with
      | emp => exact True.intro
      | val d => obtain ⟨u, h1, h2⟩ := q; exact ⟨u, h1, h2.mono le⟩
      | own c1 =>
        obtain ⟨b, o1, h4, h5, h6, h7⟩ := q
        have ne : b ≠ a := fun z => by
          subst z
          exact hj (h.dj j i c1 c b e hi h4 ha)
        exact ⟨b, o1, h4, by show (if b = a then none else W.O b) = some o1; rw [if_neg ne]; exact h5, h6, h7.mono le⟩
      | me d => obtain ⟨b, h1, h2, h3⟩ := q; exact ⟨b, h1, h2, h3.mono le⟩
      | exn x => obtain ⟨b, c1, d, h1, h2, h3⟩ := q; exact ⟨b, c1, d, h1, h2, h3.mono le⟩
  · have get : ∀ {m : Nat} {cc : C}, (l.set i d)[m]? = some (.own cc) → l[m]? = some (.own cc) := fun {m cc} e => by
      by_cases hm : m = i
      · subst hm
        rw [List.getElem?_set_self (List.getElem?_eq_some_iff.mp hi).1] at e
        exact absurd (Option.some.inj e) (nd cc)
      · rw [List.getElem?_set_ne (Ne.symm hm)] at e; exact e
    exact h.dj j k c1 c2 b (get h1) (get h2) h3 h4
  · have ne : b ≠ a := fun z => by rw [z, hB] at e; cases e
    show (if b = a then none else W.O b) = some u
    rw [if_neg ne]
    exact h.base.2 b u e
/-! ### owned lists -/
def sOwnL (i : Nat) (f : XA) : XS := fun l cs => onE (f l) l cs fun ds cs' => .go (.nx (l.set i (.own (.lst ds)))) cs'
def sOwnC (i : Nat) (f : XA) (g : XG) (t : XB) (e : XE) (vs : List Nat) : XS := fun l cs => onE (lcM f g t e vs l) l cs fun ds cs' => .go (.nx (l.set i (.own (.lst ds)))) cs'
def sMutO (i : Nat) (g : List D → List D → Option (List D)) (f : XA) : XS := fun l cs => match l[i]? with
  | some (.own (.lst xs)) => onE (f l) l cs fun ds cs' => match g xs ds with
    | some ys => .go (.nx (l.set i (.own (.lst ys)))) cs'
    | none => .no
  | _ => .no
def xLenO (i : Nat) : XE := fun l => match l[i]? with
  | some (.own (.lst xs)) => rt (.int xs.length)
  | some (.val d) => rd fun cs => dLen cs [d]
  | _ => no
section
variable {X : Cx} {z : ZT} {st : Stmt} {es : List Expr} {f : XA} {i : Nat} {pos p : Pos}
end
section
variable {X : Cx} {z : ZT} {elt tg iter : Expr} {ifs : List Expr} {scope : Scope} {own : List (Str × Nat)} {pos : Pos} {f : XA} {g : XG} {t : XB} {e : XE} {ts : List Nat}
end
/-! ### sets of keys -/
def addK (ks : List Key) (k : Key) : List Key := if hasK ks k = true then ks else ks ++ [k]
def sOwn (i : Nat) (c : C) : XS := fun l cs => .go (.nx (l.set i (.own c))) cs
def sAddO (i : Nat) (fe : XE) : XS := fun l cs => match l[i]? with
  | some (.own (.set ks)) => onE (fe l) l cs fun d cs' => match keyOf d with
    | some k => if ks.length < 4000 then .go (.nx (l.set i (.own (.set (addK ks k))))) cs' else .no
    | none => .no
  | _ => .no
def bInO (neg : Bool) (i : Nat) (fe : XE) : XB := fun l => bd (fe l) fun d => match l[i]?, keyOf d with
  | some (.own (.set ks)), some k => rt (hasK ks k != neg)
  | _, _ => no
section
variable {X : Cx} {z : ZT} {st : Stmt} {e a : Expr} {es : List Expr} {fe : XE} {i : Nat}
end
end F

/-! isinstance, chains, several targets, truth, repr -/
namespace F
open PySem PySem.Spec PyProof.Rows L2 Evl
def dIsi (T : Tb) (cs : Cells) : List D → Option D
  | [x, y] => match tagOf cs x, y with
    | some (.b n), .ty m => (isiB n m).map .bl
    | some (.b n), .cls c => (T.is (.b n) (.c c)).map .bl
    | some (.c k), .cls c => if T.has k = true then (T.is (.c k) (.c c)).map .bl else none
    | some (.c k), .ty m => if T.has k = true then (T.is (.c k) (.b m)).map .bl else none
    | _, _ => none
  | _ => none
section
variable {Z : Sx} {W : Wd} {cs : Cells} {H : Hp} {v : V} {d : D}
end
/-! chains -/
def xChain (g g' : Cells → D → D → Option D) (fa fb fc : XE) : XE := fun l => bd (fa l) fun x => bd (fb l) fun y => bd (rd fun cs => g cs x y) fun r => bd (asB r) fun b => if b = true then bd (fc l) fun w => rd fun cs => g' cs y w else rt (.bl false)
section
variable {X : Cx} {z : ZT} {e a b c : Expr} {fa fb fc : XE} {g g' : Cells → D → D → Option D}
end
/-! truth -/
def truD (cs : Cells) (d : D) : Option Bool := match d with
  | .non => some false
  | .bl b => some b
  | .int i => some (i != 0)
  | .str x => some ((x.length : Int) != 0)
  | d => (seqOf cs d).map fun xs => !xs.isEmpty
def bTru (f : XE) : XB := fun l => bd (f l) fun d => rd fun cs => truD cs d
/-! several names -/
def sPar2 (i j : Nat) (f : XA) : XS := fun l cs => onE (f l) l cs fun ds cs' => match ds with
  | [a, b] => .go (.nx ((l.set i (.val a)).set j (.val b))) cs'
  | _ => .no
def sPar3 (i j k : Nat) (f : XA) : XS := fun l cs => onE (f l) l cs fun ds cs' => match ds with
  | [a, b, c] => .go (.nx (((l.set i (.val a)).set j (.val b)).set k (.val c))) cs'
  | _ => .no
section
variable {X : Cx} {z : ZT} {st : Stmt} {es : List Expr} {f : XA} {i j k : Nat}
end
/-! repr -/
def dRepr (cs : Cells) : List D → Option D
  | [.non] => some (.str "None")
  | [.bl b] => some (.str (if b then "True" else "False"))
  | [.int i] => if (decide (i.natAbs.log2 < 1920) && fitB (toString i : Str).length) = true then some (.str (toString i)) else none
  | [.str x] => if fitB (reprText x).length = true then some (.str (reprText x)) else none
  | [d] => match toP cs d with
    | some p => if ((!p.hasDict && p.showable) && (decide (p.depth ≤ 60) && fitB p.shown.length)) = true then some (.str p.shown) else none
    | none => none
  | _ => none
end F

/-! defs -/
namespace F
open PySem PySem.Spec PyProof.Rows L2 Evl
structure RmG (k : Nat) (A : Around) : Prop where
  room : Room k A
  gd : A.guards = some []
theorem RmG.mono {j k : Nat} {A : Around} (r : RmG k A) (h : j ≤ k) : RmG j A := ⟨r.room.mono h, r.gd⟩
theorem RmG.deeper {k : Nat} {A : Around} (r : RmG (k + 1) A) (env : Env) : RmG k (A.deeper env) := ⟨r.room.deeper env, r.gd⟩
theorem RmG.make {k : Nat} {A : Around} (r : RmG (k + 1) A) (C : Addr) (us : List Value) (kw : List (Str × Value)) : RmG k (A.under (.builtin "type.__call__" ⟨.ref C :: us, kw⟩)) :=
  ⟨r.room.make C us kw, by have := r.gd; simp [Around.under, Code.guards, Code.isGuard, guardIds, pushGuards, this]⟩
def runB (b : XS) (l : Loc) : EM D := fun cs => match b l cs with
  | .go (.ret d) cs' => .ok d cs'
  | .go (.nx _) cs' => .ok .non cs'
  | .go (.ex x _) cs' => .exc x cs'
  | _ => .no
def startL (n : Nat) (ds : List D) : Loc := ds.map .val ++ List.replicate (n - ds.length) .emp
def fnB (n : Nat) (b : XS) (ds : List D) : EM D := runB b (startL n ds)
def okP (Z : Sx) (W : Wd) (Q : VK) : D → Cells → Prop := fun d cs' => ∀ W' v H', Le W W' → W'.O = W.O → S Z W' cs' H' → Rep Z W' v d → Q v H'
def exP (Z : Sx) (W : Wd) (E : XK) : Exn → Cells → Prop := fun x cs' => ∀ W' cls dx H', Le W W' → W'.O = W.O → S Z W' cs' H' → RX Z W' cls dx x → E cls dx H'
def spF (Z : Sx) (F : List D → List D → EM D) : List V → List V → Hp → VK → XK → Prop := fun vs zs H Q E => ∃ W cs ds es, S Z W cs H ∧ RepA Z W vs ds ∧ RepA Z W zs es ∧ wp (F ds es) cs (okP Z W Q) (exP Z W E)
def FnG (P : Program) (w : World) (K : PySem.W.Frag) (mg : Str → Option Value) (base : Heap) (k : Nat) (f : Addr) (kn : List Str) (F : List D → List D → EM D) : Prop :=
  ∀ (A : Around) (outer : List Env) (s : Shared) (H : Hp) (us : List Value) (vs : List V) (ws : List Value) (zs : List V) (Q : VK) (E : XK), RmG k A → Env0 P w K mg base A outer s H → Vals vs us → Vals zs ws → zs.length = kn.length → spF ⟨P, w, K, mg⟩ F vs zs H Q E →
    codeAny (model P w) A (.call (.ref f) ⟨us, kn.zip ws⟩) (CR (L2N.CX P w) outer P w H s Q E) s
theorem FnG.mono {P : Program} {w : World} {K : PySem.W.Frag} {mg : Str → Option Value} {base : Heap} {j k : Nat} {f : Addr} {kn : List Str} {F : List D → List D → EM D} (h : FnG P w K mg base j f kn F) (hk : j ≤ k) : FnG P w K mg base k f kn F := fun A outer s H us vs ws zs Q E r => h A outer s H us vs ws zs Q E (r.mono hk)
/-! ### how arguments are bound -/
/-- pre: leading values as they are (self); arr: what the parameters behind them get -/
def Shp (P : Program) (w : World) (K : PySem.W.Frag) (mg : Str → Option Value) (base : Heap) (fd : FuncData) (ps : List Str) (np : Nat) (kn : List Str) (arr : List D → List D → Option (List D)) : Prop :=
  ∀ (A : Around) (outer : List Env) (s : Shared) (H : Hp) (E : XK) (W : Wd) (cs : Cells) (ds es bs : List D) (pre vs zs : List V) (pu us ws : List Value), Env0 P w K mg base A outer s H → S ⟨P, w, K, mg⟩ W cs H → Vals pre pu → pre.length = np → Vals vs us → Vals zs ws → zs.length = kn.length →
    RepA ⟨P, w, K, mg⟩ W vs ds → RepA ⟨P, w, K, mg⟩ W zs es → arr ds es = some bs →
    StX.Bnd (L2N.CX P w) P w K mg base fd ⟨pu ++ us, kn.zip ws⟩ ps A outer s H E (fun xs H2 => ∃ W' ys, xs = pre ++ ys ∧ xs.length = ps.length ∧ Le W W' ∧ W'.O = W.O ∧ S ⟨P, w, K, mg⟩ W' cs H2 ∧ RepA ⟨P, w, K, mg⟩ W' ys bs)
def arrP (m np : Nat) (dd : List D) : List D → List D → Option (List D) := fun ds es => match es with
  | [] => if np + ds.length + dd.length = m then some (ds ++ dd) else none
  | _ => none
section
variable {P : Program} {w : World} {K : PySem.W.Frag} {mg : Str → Option Value} {base : Heap} {k : Nat} {f : Addr} {name qual : Str} {params : Arguments} {body : List Stmt} {scope : Scope} {dvs : List V} {kws : List (Str × V)} {fd : FuncData} {N ps kn : List Str} {b : XS} {arr : List D → List D → Option (List D)}
theorem shp_pos {ds0 : List Value} {dv : List V} {dd : List D} {np : Nat} (bi : Binds K fd ps ds0) (rv : Vals dv ds0) (rd : ∀ W, RepA ⟨P, w, K, mg⟩ W dv dd) : Shp P w K mg base fd ps np [] (arrP ps.length np dd) := by
  intro A outer s H E W cs ds es bs pre vs zs pu us ws e0 ss rp lp r rz lz ra rz' h A' Ex Q q
  unfold arrP at h
  split at h
  · split at h
    · rename_i hl
      cases h
      have KX : K.In s.heap := e0.mod.kin.keeps fun b o e => (e0.bs b o e).1
      have r2 : Vals ((pre ++ vs) ++ dv) ((pu ++ us) ++ ds0) := (rp.append r).append rv
      have ln : ((pre ++ vs) ++ dv).length = ps.length := by
        have h1 := ra.length
        have h2 := (rd W).length
        rw [List.length_append, List.length_append]
        omega
      refine bi s (pu ++ us) KX (by rw [← r2.length]; exact ln) _ _ _ _ ?_
      refine q s H ((pre ++ vs) ++ dv) ((pu ++ us) ++ ds0) e0 Un.refl rfl (fun _ _ z => z) r2 ln ⟨W, vs ++ dv, by rw [List.append_assoc], ln, Le.refl _, rfl, ss, ra.append (rd W)⟩
    · cases h
  · cases h
theorem _root_.L2.FnScope.le {N ps : List Str} {sc : Scope} (h : FnScope N ps sc) : ps.length ≤ N.length := by
  have := congrArg List.length h.pre
  rw [List.length_take] at this
  omega
theorem S.drop {Z : Sx} {W : Wd} {cs : Cells} {H O0 : Hp} (s : S Z W cs H) (h : Ex O0 W.O) : S Z { W with O := O0 } cs H where
  g := s.g
  o := h.trans s.o
  dj := fun a u e => s.dj a u (h a u e)
  len := s.len
  nd := s.nd
  al := s.al
  fo := fun a ha => by
    show O0 a = none
    cases q : O0 a with
    | none => rfl
    | some u => rw [← s.fo a ha, h a u q]
  at_ := fun n a c e1 e2 e3 => by
    obtain ⟨g, u, e, r⟩ := s.at_ n a c e1 e2 e3
    exact ⟨g, u, e, r.mono (Le.own W _)⟩
theorem rep_start {Z : Sx} {z : ZT} {W : Wd} : ∀ {vs : List V} {ds : List D}, RepA Z W vs ds → ∀ (i : Nat) (s : Sl), (ds.map Sl.val)[i]? = some s → SlOk Z z W W s ((vs.map some)[i]?)
  | _, _, .nil, i, s, h => by simp at h
  | _, _, .cons r t, 0, s, h => by simp at h; subst h; exact ⟨_, by simp, r⟩
  | _, _, .cons r t, i + 1, s, h => by
    have := rep_start (z := z) t i s (by simpa using h)
    simpa using this
theorem slot_val {ds : List D} {n i : Nat} {s : Sl} (h : (ds.map Sl.val ++ List.replicate n Sl.emp)[i]? = some s) : (ds.map Sl.val)[i]? = some s ∨ s = .emp := by
  by_cases hi : i < (ds.map Sl.val).length
  · rw [List.getElem?_append_left hi] at h
    exact .inl h
  · rw [List.getElem?_append_right (by omega), List.getElem?_replicate] at h
    split at h
    · cases h; exact .inr rfl
    · cases h
theorem LR.start {Z : Sx} {W : Wd} {vs : List V} {ds : List D} (r : RepA Z W vs ds) (hl : vs.length ≤ N.length) : LR Z {} W W (startL N.length ds) (L2.start N vs) := by
  have e := r.length
  refine ⟨?_, fun i s h => ?_, fun i j c c' a h1 _ _ _ => ?_, Le.refl _, Ex.refl _⟩
  · unfold startL L2.start
    rw [List.length_append, List.length_append, List.length_map, List.length_map, List.length_replicate, List.length_replicate]
    omega
  · rcases slot_val h with h | h
    · have hi : i < (vs.map some).length := by
        have := (List.getElem?_eq_some_iff.mp h).1
        rw [List.length_map] at this ⊢
        omega
      unfold L2.start
      rw [List.getElem?_append_left hi]
      exact rep_start r i s h
    · subst h
      exact True.intro
  · rcases slot_val h1 with h | h
    · rw [List.getElem?_map] at h
      cases q : ds[i]? with
      | none => rw [q] at h; cases h
      | some d => rw [q] at h; cases h
    · cases h
/-- THE RULE of a def -/
theorem fnG_of (F : FunD K name qual params body scope dvs kws f fd) (Sc : FnScope N ps scope) (sh : Shp P w K mg base fd ps 0 kn arr)
    (hb : ∀ (cdv : Value) (A : Around) (outer : List Env) (s : Shared) (H : Hp) (E : XK), RmG k (A.deeper (envOfC qual scope s.heap.objs.size f cdv)) → JSs (cxOf (L2N.CX P w) P w K mg base N qual scope f cdv A outer s H E) {} body b) :
    FnG P w K mg base (k + 1) f kn (fun ds es => match arr ds es with
      | some bs => fnB N.length b bs
      | none => no) := by
  intro A outer s H us vs ws zs Q E hr e0 r rz lz hsp
  obtain ⟨W, cs, ds, es, ss, ra, rz', wq⟩ := hsp
  obtain ⟨oc, od, dV, kV, doc, pm, an, cdv, ct, osl, rfl, lk, hcd, _, _⟩ := F.ex
  cases q : arr ds es with
  | none => simp only [q] at wq; exact wq.elim
  | some bs =>
    simp only [q] at wq
    refine StX.run_bnd lk hcd Sc hr.room e0 (sh A outer s H E W cs ds es bs [] vs zs [] us ws e0 ss .nil rfl r rz lz ra rz' q) fun s2 H2 xs G hr' => ?_
    obtain ⟨W2, ys, ex, lx, le2, o2, s2', rb⟩ := G
    have ex' : xs = ys := ex
    subst ex'
    have J := hb cdv A outer s2 H2 E (hr.deeper _)
    have tk : L2N.Takes (cxOf (L2N.CX P w) P w K mg base N qual scope f cdv A outer s2 H2 E) (wx ⟨P, w, K, mg⟩ {} W2 fun x _ cs' => exP ⟨P, w, K, mg⟩ W E x cs') :=
      (L2N.takes_of (E := E) rfl rfl rfl rfl).imp fun cls d σ H ⟨W3, cs3, l3, x3, s3, lr3, rx3, e3⟩ => e3 { W3 with O := W.O } cls d H ((le2.trans lr3.base.1).trans (Le.own W3 _)) rfl (s3.drop (by rw [← o2]; exact lr3.base.2)) (rx3.mono (Le.own W3 _))
    refine ⟨_, J.run W2 _ tk, W2, cs, startL N.length bs, s2', ?_, ?_⟩
    · exact LR.start rb (by rw [lx]; exact Sc.le)
    · unfold wp fnB runB at wq
      cases qb : b (startL N.length bs) cs with
      | no => rw [qb] at wq; exact wq.elim
      | go fl cs' =>
        rw [qb] at wq
        have leB : ∀ {W3 : Wd}, Le W2 W3 → Le W { W3 with O := W.O } := fun {W3} h => (le2.trans h).trans (Le.own W3 _)
        cases fl with
        | ret d => exact fun W3 v3 H3 le3 s3 o3 r3 => wq { W3 with O := W.O } v3 H3 (leB le3) rfl (s3.drop (by rw [← o2]; exact o3)) (r3.mono (Le.own W3 _))
        | nx l' => exact fun W3 σ3 H3 le3 s3 lr3 => wq { W3 with O := W.O } .non H3 (leB le3) rfl (s3.drop (by rw [← o2]; exact lr3.base.2)) .non
        | ex x l' => exact wq
        | bk l' => exact wq.elim
        | ct l' => exact wq.elim
end
end F

/-! calls -/
namespace F
open PySem PySem.Spec PyProof.Rows L2 Evl
structure JK (X : Cx) (z : ZT) (kws : List Keyword) (f : XA) : Prop where
  run : ∀ (B : Wd) (Er : Exn → Loc → Cells → Prop), Tkz z X (wx (sx X) z B Er) → PK X kws (tA (sx X) z B f Er)
def xCall (Fn : List D → List D → EM D) (fa fk : XA) : XE := fun l => bd (fa l) fun ds => bd (fk l) fun ks => Fn ds ks
structure CalG (P : Program) (w : World) (K : PySem.W.Frag) (mg : Str → Option Value) (base : Heap) (k : Nat) (x : Str) (kn : List Str) (Fn : List D → List D → EM D) : Prop where
  ex : ∃ f, FnG P w K mg base k f kn Fn ∧ mg x = some (.ref f) ∧ PySem.W.keepIn K (.ref f) = true
section
variable {X : Cx} {z : ZT} {B : Wd} {Er : Exn → Loc → Cells → Prop} {k j : Nat} {g f : Addr} {kn : List Str} {Fn : List D → List D → EM D} {x m : Str} {p q pos apos kpos : Pos} {e o : Expr} {es : List Expr} {kws : List Keyword} {fa fk : XA} {fe : XE} {nm : Option Str}
theorem pk_im {t t' : TA} (h : PK X kws t) (k : ∀ σ H Q, t' σ H Q → t σ H Q) : PK X kws t' := ⟨fun pos pins s σ H Q I q => h.run pos pins s σ H Q I (k _ _ _ q)⟩
theorem jk_nil : JK X z [] aNil := ⟨fun B Eo tk => pk_im pk_nil fun σ H Q ⟨W, cs, l, s, lr, w⟩ => w W [] H (Le.refl _) rfl s .nil⟩
/-- the machine behind the arguments -/
def At2 (X : Cx) (z : ZT) (B : Wd) (Er : Exn → Loc → Cells → Prop) (σ : L2.St) (Q : VK) (Fn : List D → List D → EM D) (vs zs : List V) (H : Hp) : Prop :=
  ∃ W cs l ds ks, S (sx X) W cs H ∧ LR (sx X) z B W l σ ∧ RepA (sx X) W vs ds ∧ RepA (sx X) W zs ks ∧ wp (Fn ds ks) cs (okP (sx X) W Q) (fun x cs' => Er x l cs')
theorem run_G {pins : List (Addr × Obj)} {σ : L2.St} {H : Hp} {s : Shared} {Q : VK} {us ws : List Value} {vs zs : List V} (h : FnG X.prog X.w X.K X.mg X.base k g kn Fn) (hr : RmG k X.A) (tk : Tkz z X (wx (sx X) z B Er)) (I : Inv X pins σ H s) (r : Vals vs us) (rz : Vals zs ws) (l : zs.length = kn.length) (a : At2 X z B Er σ Q Fn vs zs H) :
    wpAny (model X.prog X.w) X.A (call (.ref g) us (kn.zip ws)) (EP X pins σ Q) X.xe s := by
  obtain ⟨W, cs, lo, ds, ks, ss, lr, ra, rk, w⟩ := a
  have hsp : spF (sx X) Fn vs zs H Q (WE (wx (sx X) z B Er) σ) := ⟨W, cs, ds, ks, ss, ra, rk, wp_imp w (fun _ _ h => h) fun x cs' e W' cls dx H' le o s' rx => ⟨W', cs', lo, x, s', lr.mono le o, rx, e⟩⟩
  refine wpAny_call (codeAny_mono (h X.A X.stack s H us vs ws zs Q _ hr I.env0 r rz l hsp) fun r s' hq => ?_)
  cases r with
  | error e => exact L2N.passAt tk.nn σ pins H s e s' I hq
  | ok fl =>
    cases fl with
    | ret u => exact I.after hq
    | next => exact False.elim hq
    | brk => exact False.elim hq
    | cont => exact False.elim hq
/-- the arguments, then the keywords -/
theorem args2 {σ : L2.St} {H : Hp} {Q : VK} (h : tE (sx X) z B (xCall Fn fa fk) Er σ H Q) : tA (sx X) z B fa Er σ H fun vs H1 => tA (sx X) z B fk Er σ H1 fun zs H2 => At2 X z B Er σ Q Fn vs zs H2 := by
  obtain ⟨W, cs, l, s, lr, w⟩ := h
  refine ⟨W, cs, l, s, lr, wp_imp (wp_bd.mp w) (fun ds cs1 w1 W1 vs H1 le1 o1 s1 r1 => ?_) fun _ _ h => h⟩
  refine ⟨W1, cs1, l, s1, lr.mono le1 o1, wp_imp (wp_bd.mp w1) (fun ks cs2 w2 W2 zs H2 le2 o2 s2 r2 => ?_) fun _ _ h => h⟩
  exact ⟨W2, cs2, l, ds, ks, s2, lr.mono (le1.trans le2) (o2.trans o1), r1.mono le2, r2, wp_imp w2 (fun d cs3 k W3 v H3 le3 o3 s3 r3 => k W3 v H3 ((le1.trans le2).trans le3) (o3.trans (o2.trans o1)) s3 r3) fun _ _ h => h⟩
/-- as many keywords as values: a check of the machine -/
def kChk (n : Nat) (Fn : List D → List D → EM D) : List D → List D → EM D := fun ds ks => if ks.length = n then Fn ds ks else no
theorem At2.chk {σ : L2.St} {Q : VK} {vs zs : List V} {H : Hp} {n : Nat} (a : At2 X z B Er σ Q (kChk n Fn) vs zs H) : zs.length = n ∧ At2 X z B Er σ Q Fn vs zs H := by
  obtain ⟨W, cs, l, ds, ks, s, lr, ra, rk, w⟩ := a
  unfold kChk at w
  by_cases c : ks.length = n
  · rw [if_pos c] at w
    exact ⟨by rw [rk.length]; exact c, W, cs, l, ds, ks, s, lr, ra, rk, w⟩
  · rw [if_neg c] at w
    exact w.elim
theorem je_call (c : CalG X.prog X.w X.K X.mg X.base k x kn Fn) (hr : RmG j X.A) (hk : k ≤ j) (hg : Gl X x) (ha : JA X z (e :: es) fa) (hkw : JK X z kws fk)
    (hall : (backToKw pos (keywordEach kws X.env)).all (·.1.isSome) = true := by rfl) (hks : (backToKw pos (keywordEach kws X.env)).filterMap (·.1) = kn := by rfl) (hdb : (x == ("__debug__" : Str)) = false := by decide)
    (he : starEach (e :: es) X.env = (false, eval e X.env) :: starEach es X.env := by rfl) : JE X z (.Call (.Name x p) (e :: es) kws pos) (xCall (kChk kn.length Fn) fa fk) := ⟨fun B Eo tk => ⟨fun pins s σ H Q I h => by
  obtain ⟨g, hF, hm, kp⟩ := c.ex
  refine wpAny_Call_Name_kw (ld_glob I hg hm ?_ hdb)
  refine PySem.W.callWith_A (K := X.K) kp hall (thn ((ha.run B Eo tk).run pos pins s σ H _ I (args2 h)) fun us s1 ⟨vs, H1, I1, r, q⟩ => ?_) he
  refine thn ((hkw.run B Eo tk).run pos pins s1 σ H1 _ I1 q) fun ws s2 ⟨zs, H2, I2, rz, a⟩ => ⟨I2.kIn, ?_⟩
  obtain ⟨l, a⟩ := a.chk
  rw [hks]
  exact run_G hF (hr.mono hk) tk I2 r rz l a⟩⟩
/-! ### a function off a class -/
/-! ### new instances -/
/-- C(*y, k = ..): y is asked ahead of the keywords, walked behind them -/
def xCallS (Fn : List D → List D → EM D) (fe : XE) (fk : XA) : XE := fun l => bd (fe l) fun y => bd (fk l) fun ks => bd (rd fun cs => seqOf cs y) fun ds => Fn ds ks
end
end F

/-! a star parameter; raise; try -/
namespace F
open PySem PySem.Spec PyProof.Rows L2 Evl
section
variable {P : Program} {w : World} {K : PySem.W.Frag} {mg : Str → Option Value} {base : Heap} {f : Addr} {name qual : Str} {params : Arguments} {body : List Stmt} {scope : Scope} {kws : List (Str × V)} {fd : FuncData} {ps kn ms : List Str} {pv : Str}
end
/-! ### raise C(..) -/
/-- an __init__ of an own exception that stores its arguments -/
def spE (K : PySem.W.Frag) (Cl : Addr) (ns : List Str) : Sp := fun vs H Q _ => ∃ a ys, vs = .ref a :: ys ∧ ys.length = ns.length ∧ E.OexB K Cl ∧ (∀ f ∈ ns, NoAttr K Cl f) ∧ H a = some (exo a Cl none) ∧
  ∀ dx, H dx = none → dx ≠ a → Q .non (upd (upd H dx (exd dx (ns.zip ys).reverse)) a (exo a Cl (some dx)))
structure ExrG (P : Program) (w : World) (K : PySem.W.Frag) (mg : Str → Option Value) (base : Heap) (k : Nat) (x : Str) (ns : List Str) : Prop where
  ex : ∃ Cl, E.Exr P w K mg base k x Cl (spE K Cl ns) ∧ ∀ f ∈ ns, NoAttr K Cl f
def mkX (x : Str) (ns : List Str) (ds : List D) : Exn := ⟨x, (ns.zip ds).reverse⟩
def sRaise (x : Str) (ns : List Str) (fa : XA) : XS := fun l cs => onE (fa l) l cs fun ds cs' => if ds.length = ns.length then .go (.ex (mkX x ns ds) l) cs' else .no
theorem RepF.append {Z : Sx} {W : Wd} : ∀ {vs us : List (Str × V)} {ds es : List (Str × D)}, RepF Z W vs ds → RepF Z W us es → RepF Z W (vs ++ us) (ds ++ es)
  | _, _, _, _, .nil, s => s
  | _, _, _, _, .cons r t, s => .cons r (RepF.append t s)
theorem RepF.rev {Z : Sx} {W : Wd} : ∀ {vs : List (Str × V)} {ds : List (Str × D)}, RepF Z W vs ds → RepF Z W vs.reverse ds.reverse
  | _, _, .nil => .nil
  | _, _, .cons r t => by
    rw [List.reverse_cons, List.reverse_cons]
    exact (RepF.rev t).append (.cons r .nil)
theorem RepA.zip {Z : Sx} {W : Wd} : ∀ (ns : List Str) {vs : List V} {ds : List D}, RepA Z W vs ds → RepF Z W (ns.zip vs) (ns.zip ds)
  | [], _, _, _ => by simp only [List.zip_nil_left]; exact .nil
  | _ :: _, _, _, .nil => .nil
  | n :: ns, _, _, .cons r t => .cons r (RepA.zip ns t)
theorem js_raise {X : Cx} {z : ZT} {k j : Nat} {x : Str} {ns : List Str} {p pos pos2 : Pos} {e : Expr} {es : List Expr} {fa : XA} (c : ExrG X.prog X.w X.K X.mg X.base k x ns) (hr : RmG j X.A) (hk : k + 1 ≤ j) (hc : X.calm = true) (hg : Gl X x) (ha : JA X z (e :: es) fa) (hn : ns.length ≤ 1000 := by decide)
    (hdb : (x == ("__debug__" : Str)) = false := by decide) (he : starEach (e :: es) X.env = (false, eval e X.env) :: starEach es X.env := by rfl) (hpl : (backTo pos (starEach es X.env)).any (·.1) = false := by rfl) :
    JS X z (.Raise (some (.Call (.Name x p) (e :: es) [] pos)) none pos2) (sRaise x ns fa) := by
  obtain ⟨Cl, c, hno⟩ := c.ex
  refine ⟨fun B Eo tk => ps_imp (E.ps_rx c hr.room hk hc tk.nn hg (ha.run B Eo tk) hdb he hpl) fun D σ H ⟨W, cs, l, s, lr, w⟩ => ?_⟩
  refine ⟨W, cs, l, s, lr, wp_imp (wpS_onE.mp w) (fun ds cs1 w1 W1 vs H1 le1 o1 s1 r1 => ?_) fun _ _ h => h⟩
  split at w1
  · rename_i hl
    have lv := r1.length
    refine ⟨by omega, fun a ha => ?_⟩
    obtain ⟨_, _, _, T, _⟩ := c.ex
    refine ⟨a, vs ++ [], rfl, by rw [List.append_nil]; omega, T, hno, upd_same, fun dx hdx hne => ⟨rfl, dx, (ns.zip (vs ++ [])).reverse, upd_same, ?_, ?_, ?_⟩⟩
    · rw [upd_ne hne, upd_same]
    · rw [upd_ne hne] at hdx; exact hdx
    · have hdx1 : H1 dx = none := by rw [upd_ne hne] at hdx; exact hdx
      rw [List.append_nil]
      have eH : upd (del (upd (upd (upd H1 a (exo a Cl none)) dx (exd dx (ns.zip vs).reverse)) a (exo a Cl (some dx))) a) dx (.xd (ns.zip vs).reverse) = upd H1 dx (.xd (ns.zip vs).reverse) := by
        funext b
        by_cases hb : b = dx
        · rw [hb, upd_same, upd_same]
        · rw [upd_ne hb, upd_ne hb]
          by_cases hba : b = a
          · rw [hba, del_same, ha]
          · rw [del_ne hba, upd_ne hba, upd_ne hb, upd_ne hba]
      rw [eH]
      have le := s1.leNew (o := .xd (ns.zip vs).reverse) hdx1
      exact ⟨W1.new dx _, cs1, l, mkX x ns ds, s1.new hdx1, (lr.mono le1 o1).mono le rfl, ⟨Cl, dx, _, c.hm, rfl, rfl, upd_same, (RepA.zip ns (r1.mono le)).rev⟩, w1⟩
  · exact w1.elim
/-! ### try -/
structure Te where
  exc : List (Str × List Str) := []
  exm : List (Str × Tag × Bool) := []
structure TeOk (Z : Sx) (T : Te) : Prop where
  cls : ∀ q ∈ T.exc, ∃ Cl, Z.mg q.1 = some (.ref Cl) ∧ XfC Z.K Cl ∧ ExcC Z.K Cl ∧ ∀ f ∈ q.2, NoAttr Z.K Cl f
  exm : ∀ q ∈ T.exm, ∃ Cl u, Z.mg q.1 = some (.ref Cl) ∧ tagV Z q.2.1 = some u ∧ PySem.W.exmOne Z.K (.ref Cl) u = some q.2.2
def Te.m (T : Te) (x : Str) (t : Tag) : Option Bool := (T.exm.find? fun q => decide (q.1 = x) && decide (q.2.1 = t)).map (·.2.2)
theorem TeOk.m_ok {Z : Sx} {T : Te} (t : TeOk Z T) {x : Str} {y : Tag} {b : Bool} (h : T.m x y = some b) : ∃ Cl u, Z.mg x = some (.ref Cl) ∧ tagV Z y = some u ∧ PySem.W.exmOne Z.K (.ref Cl) u = some b := by
  unfold Te.m at h
  cases q : T.exm.find? fun q => decide (q.1 = x) && decide (q.2.1 = y) with
  | none => rw [q] at h; cases h
  | some r =>
    rw [q] at h
    cases h
    have hr := List.find?_some q
    obtain ⟨h2, h3⟩ := Bool.and_eq_true_iff.mp hr
    obtain ⟨Cl, u, h4, h5, h6⟩ := t.exm r (List.mem_of_find?_eq_some q)
    rw [of_decide_eq_true h2] at h4
    rw [of_decide_eq_true h3] at h5
    exact ⟨Cl, u, h4, h5, h6⟩
def isExn : Sl → Bool
  | .exn _ => true
  | _ => false
/-- behind a suite: its name goes -/
def endX (i : Nat) : SO → SO
  | .go (.nx l) cs => if (l.set i .emp).any isExn = true then .no else .go (.nx (l.set i .emp)) cs
  | .go (.bk l) cs => if (l.set i .emp).any isExn = true then .no else .go (.bk (l.set i .emp)) cs
  | .go (.ct l) cs => if (l.set i .emp).any isExn = true then .no else .go (.ct (l.set i .emp)) cs
  | .go (.ret d) cs => .go (.ret d) cs
  | _ => .no
abbrev Clz := Tag × Nat × XS
def hand (T : Te) (x : Exn) (l : Loc) (cs : Cells) : List Clz → SO
  | [] => .go (.ex x l) cs
  | (t, i, su) :: r => match T.m x.c t with
    | some true => if i < l.length then endX i (su (l.set i (.exn x)) cs) else .no
    | some false => hand T x l cs r
    | none => .no
inductive JH (X : Cx) (z : ZT) : List ExceptHandler → List Clz → Prop
  | nil : JH X z [] []
  | cons {x n : Str} {t : Tag} {c : Value} {i : Nat} {su : XS} {b₀ : Stmt} {suite : List Stmt} {np pos' : Pos} {hds : List ExceptHandler} {l : List Clz} (ht : tagV (sx X) t = some c) (hc : Names X x c) (hi : X.N[i]? = some n) (hln : X.env.kindOf n = some .local)
      (hsu : ∀ (a : Addr) (oe : Obj) (cls : Value) (d : Option Addr) (pn : List (Addr × Obj)), L2N.Zn cls d oe → (∃ vs, oe.data = .fields vs) → JSs (X.suite a ((a, oe) :: pn)) { z with e := some (a, cls, d) } (b₀ :: suite) su) (r : JH X z hds l) :
      JH X z (.ExceptHandler (some (.Name x np)) (some n) (b₀ :: suite) pos' :: hds) ((t, i, su) :: l)
section
variable {Z : Sx} {z : ZT} {B W : Wd} {l : Loc} {σ : L2.St}
theorem SlOk.base {B' : Wd} (h : B'.O = B.O) : ∀ {s : Sl} {v : Option (Option V)}, SlOk Z z B W s v → SlOk Z z B' W s v
  | .emp, _, _ => True.intro
  | .val _, _, q => q
  | .own _, _, ⟨a, o, h1, h2, ⟨h3, h4⟩, r⟩ => ⟨a, o, h1, h2, ⟨by rw [h]; exact h3, h4⟩, r⟩
  | .me _, _, q => q
  | .exn _, _, q => q
theorem LR.rebase {B' : Wd} (h : LR Z z B W l σ) (le : Le B' W) (ho : B'.O = B.O) : LR Z z B' W l σ := ⟨h.len, fun i s e => (h.sl i s e).base ho, h.dj, le, by rw [ho]; exact h.base.2⟩
/-- no exception is held any more -/
theorem LR.noX {z' : ZT} (h : LR Z z' B W l σ) (hm : z'.me = z.me) (hx : l.any isExn = false) : LR Z z B W l σ := ⟨h.len, fun i s e => by
  have q := h.sl i s e
  cases s with
  | emp => exact True.intro
  | val d => exact q
  | own c => obtain ⟨a, o, h1, h2, ⟨h3, h4⟩, r⟩ := q; exact ⟨a, o, h1, h2, ⟨h3, fun y => by rw [← hm]; exact h4 y⟩, r⟩
  | me d => obtain ⟨a, h1, h2, r⟩ := q; exact ⟨a, h1, by rw [← hm]; exact h2, r⟩
  | exn x =>
    have := List.any_eq_false.mp hx _ (List.mem_of_getElem? e)
    exact absurd rfl this, h.dj, h.base⟩
/-- a caught exception in slot i -/
theorem LR.caught {i : Nat} {a : Addr} {cls : Value} {d : Option Addr} {x : Exn} (h : LR Z z B W l σ) (hz : z.e = none) (r : RX Z W cls d x) : LR Z { z with e := some (a, cls, d) } B W (l.set i (.exn x)) (σ.set i (some (.ref a))) := by
  refine ⟨by rw [List.length_set, List.length_set]; exact h.len, fun j s e => ?_, fun j k c c' b h1 h2 h3 h4 => ?_, h.base⟩
  · by_cases hj : j = i
    · subst hj
      have hlt : j < l.length := by
        have := (List.getElem?_eq_some_iff.mp e).1
        rw [List.length_set] at this
        exact this
      rw [List.getElem?_set_self hlt] at e
      cases e
      exact ⟨a, cls, d, rfl, by rw [List.getElem?_set_self (by rw [← h.len]; exact hlt)], r⟩
    · rw [List.getElem?_set_ne (Ne.symm hj)] at e ⊢
      have q := h.sl j s e
      cases s with
      | emp => exact True.intro
      | val d => exact q
      | own c => exact q
      | me d => exact q
      | exn y =>
        obtain ⟨_, _, _, h1, _⟩ := q
        rw [hz] at h1
        cases h1
  · have ne : ∀ {m : Nat} {cc : C}, (l.set i (.exn x))[m]? = some (.own cc) → m ≠ i := fun {m cc} e z => by
      subst z
      have hlt : m < l.length := by
        have := (List.getElem?_eq_some_iff.mp e).1
        rw [List.length_set] at this
        exact this
      rw [List.getElem?_set_self hlt] at e
      cases e
    have n1 := ne h1
    have n2 := ne h2
    rw [List.getElem?_set_ne (Ne.symm n1)] at h1 h3
    rw [List.getElem?_set_ne (Ne.symm n2)] at h2 h4
    exact h.dj j k c c' b h1 h2 h3 h4
end
section
variable {X : Cx} {z : ZT} {body : List Stmt} {h₀ : ExceptHandler} {hds : List ExceptHandler} {cl : List Clz} {pos : Pos} {b : XS} {T : Te}
/-- the clauses as the walk has them -/
def clsOf (Z : Sx) (z : ZT) (B : Wd) : List Clz → List Value → List E.Cl
  | (t, i, su) :: r, c :: cs => (c, i, fun a cls d => tS Z { z with e := some (a, cls, d) } B su fun _ _ _ => False) :: clsOf Z z B r cs
  | _, _ => []
inductive JH' (X : Cx) (z : ZT) : List ExceptHandler → List Clz → List Value → Prop
  | nil : JH' X z [] [] []
  | cons {x n : Str} {t : Tag} {c : Value} {i : Nat} {su : XS} {b₀ : Stmt} {suite : List Stmt} {np pos' : Pos} {hds : List ExceptHandler} {l : List Clz} {cs : List Value} (ht : tagV (sx X) t = some c) (hc : Names X x c) (hi : X.N[i]? = some n) (hln : X.env.kindOf n = some .local)
      (hsu : ∀ (a : Addr) (oe : Obj) (cls : Value) (d : Option Addr) (pn : List (Addr × Obj)), L2N.Zn cls d oe → (∃ vs, oe.data = .fields vs) → JSs (X.suite a ((a, oe) :: pn)) { z with e := some (a, cls, d) } (b₀ :: suite) su) (r : JH' X z hds l cs) :
      JH' X z (.ExceptHandler (some (.Name x np)) (some n) (b₀ :: suite) pos' :: hds) ((t, i, su) :: l) (c :: cs)
theorem JH.vals (h : JH X z hds cl) : ∃ cs, JH' X z hds cl cs := by
  induction h with
  | nil => exact ⟨[], .nil⟩
  | cons ht hc hi hln hsu r ih =>
    obtain ⟨cs, q⟩ := ih
    exact ⟨_ :: cs, .cons ht hc hi hln hsu q⟩
theorem JH'.toH (B : Wd) {cs : List Value} (h : JH' X z hds cl cs) : E.HdsA X hds (clsOf (sx X) z B cl cs) := by
  induction h with
  | nil => exact .nil
  | cons ht hc hi hln hsu r ih => exact .cons hc hi hln (fun a oe cls d pn z1 z2 => (hsu a oe cls d pn z1 z2).run B _ takes_no) ih
end
end F

/-! what a suite asks of its exception; own ==; the entry -/
namespace F
open PySem PySem.Spec PyProof.Rows L2 Evl
def Te.fld (T : Te) (c f : Str) : Bool := T.exc.any fun q => decide (q.1 = c) && q.2.any fun g => decide (g = f)
def Te.has (T : Te) (c : Str) : Bool := T.exc.any fun q => decide (q.1 = c)
theorem TeOk.fld_ok {Z : Sx} {T : Te} {c f : Str} {Cl : Addr} (t : TeOk Z T) (h : T.fld c f = true) (hm : Z.mg c = some (.ref Cl)) : XfC Z.K Cl ∧ NoAttr Z.K Cl f := by
  obtain ⟨q, hq, h1⟩ := List.any_eq_true.mp h
  obtain ⟨h2, h3⟩ := Bool.and_eq_true_iff.mp h1
  obtain ⟨g, hg, h4⟩ := List.any_eq_true.mp h3
  obtain ⟨Cl', m, k, _, n⟩ := t.cls q hq
  rw [of_decide_eq_true h2, hm] at m
  cases m
  rw [← of_decide_eq_true h4]
  exact ⟨k, n g hg⟩
theorem TeOk.has_ok {Z : Sx} {T : Te} {c : Str} {Cl : Addr} (t : TeOk Z T) (h : T.has c = true) (hm : Z.mg c = some (.ref Cl)) : ExcC Z.K Cl := by
  obtain ⟨q, hq, h1⟩ := List.any_eq_true.mp h
  obtain ⟨Cl', m, _, k, _⟩ := t.cls q hq
  rw [of_decide_eq_true h1, hm] at m
  cases m
  exact k
/-- e.f, e the suite's exception, of the class c -/
def xXf (T : Te) (c : Str) (i : Nat) (f : Str) : XE := fun l => match l[i]? with
  | some (.exn x) => if (decide (x.c = c) && T.fld c f) = true then rd fun _ => x.fs.lookup f else no
  | _ => no
def xIsX (T : Te) (Tb : Tb) (i : Nat) (t : Tag) : XE := fun l => match l[i]? with
  | some (.exn x) => if T.has x.c = true then rd fun _ => (Tb.is (.c x.c) t).map .bl else no
  | _ => no
section
variable {X : Cx} {z : ZT} {a : Addr} {oe : Obj} {cls : Value} {d : Option Addr} {pn : List (Addr × Obj)} {e b : Expr} {i : Nat} {f c : Str} {pos p : Pos} {T : Te} {T2 : Tb}
theorem je_xf (t : TeOk (sx X) T) (hz : L2N.Zn cls d oe) (hf : ∃ vs, oe.data = .fields vs) {Cl : Addr} (hc : X.mg c = some (.ref Cl)) (ht : T.fld c f = true) (hv : PE (X.suite a ((a, oe) :: pn)) e (tVar i)) (hb : attributeBase e f X.env (eval e X.env) = eval e X.env := by rfl) :
    JE (X.suite a ((a, oe) :: pn)) { z with e := some (a, cls, d) } (.Attribute e f pos) (xXf T c i f) := by
  obtain ⟨k1, k2⟩ := t.fld_ok ht hc
  refine ⟨fun B Eo tk => pe_imp (pe_xf k1 k2 hz.zc hf hv hb) fun σ H Q ⟨W, cs, l, s, lr, w⟩ => ?_⟩
  unfold xXf at w
  split at w
  · rename_i x hl
    split at w
    · rename_i hcc
      obtain ⟨e1, _⟩ := Bool.and_eq_true_iff.mp hcc
      obtain ⟨r, hr, k⟩ := wp_rd.mp w
      obtain ⟨a', cls', d', hz', hs, Cl', dx, fs, m, e2, e3, e4, e5⟩ := lr.sl i _ hl
      cases hz'
      have m' : X.mg x.c = some (.ref Cl') := m
      rw [of_decide_eq_true e1, hc] at m'
      cases m'
      subst e2 e3
      obtain ⟨v, hv, rv⟩ := e5.lookup f hr
      exact ⟨_, hs, rfl, rfl, dx, fs, v, rfl, s.g _ _ e4, hv, k W v H (Le.refl _) rfl s rv⟩
    · exact w.elim
  · exact w.elim
theorem je_isX {tg : Tag} {cv : V} {u : Value} (t : TeOk (sx X) T) (t2 : TbOk (sx X) T2) (hz : L2N.Zn cls d oe) (hf : ∃ vs, oe.data = .fields vs) (hg : Gl X "isinstance") (hm : X.mg "isinstance" = none) (hv : PE (X.suite a ((a, oe) :: pn)) e (tVar i)) (hb : PE (X.suite a ((a, oe) :: pn)) b (tC cv)) (hu : tagV (sx X) tg = some u) (hr : ∀ y, RelV cv y → y = u)
    (hs : starEach [e, b] X.env = [(false, eval e X.env), (false, eval b X.env)] := by rfl) (hs2 : starEach [b] X.env = [(false, eval b X.env)] := by rfl) :
    JE (X.suite a ((a, oe) :: pn)) { z with e := some (a, cls, d) } (.Call (.Name "isinstance" p) [e, b] [] pos) (xIsX T T2 i tg) := by
  refine ⟨fun B Eo tk => pe_imp (pe_callB (X := X.suite a ((a, oe) :: pn)) (E.call_isEd hz.zc hf) hg hm (by decide +kernel) (pa_cons hv (pa_cons hb pa_nil (by rw [show (X.suite a ((a, oe) :: pn)).env = X.env from rfl, hs2]; rfl)) (by rw [show (X.suite a ((a, oe) :: pn)).env = X.env from rfl, hs, hs2])) (by decide) (by decide) (by rw [show (X.suite a ((a, oe) :: pn)).env = X.env from rfl, hs, hs2]) (by rw [show (X.suite a ((a, oe) :: pn)).env = X.env from rfl, hs2]; rfl)) fun σ H Q ⟨W, cs, l, s, lr, w⟩ => ?_⟩
  unfold xIsX at w
  split at w
  · rename_i x hl
    split at w
    · rename_i hh
      obtain ⟨r, hr', k⟩ := wp_rd.mp w
      cases q : T2.is (.c x.c) tg with
      | none => rw [q] at hr'; cases hr'
      | some b' =>
        rw [q] at hr'
        cases hr'
        obtain ⟨a', cls', d', hz', hs', Cl', dx, fs, m, e2, e3, e4, e5⟩ := lr.sl i _ hl
        cases hz'
        subst e2 e3
        obtain ⟨t1, u1, h1, h2, h3⟩ := t2.is_ok q
        have h1' : X.mg x.c = some t1 := h1
        rw [show X.mg x.c = some (.ref Cl') from m] at h1'
        cases h1'
        rw [hu] at h2
        cases h2
        exact ⟨_, hs', ⟨cv, u, b', Cl', dx, fs, rfl, rfl, rfl, s.g _ _ e4, t.has_ok hh m, hr, h3, k W _ H (Le.refl _) rfl s (.bl b')⟩⟩
    · exact w.elim
  · exact w.elim
end
/-! ### own == -/
abbrev EqT := List (Str × (List D → List D → EM D))
/-- whose == is asked first: true: the left one's -/
abbrev OrT := List (Str × Tag × Bool)
def OrT.at_ (o : OrT) (c : Str) (t : Tag) : Option Bool := (o.find? fun q => decide (q.1 = c) && decide (q.2.1 = t)).map (·.2.2)
def EqT.at_ (e : EqT) (c : Str) : Option (List D → List D → EM D) := (e.find? fun q => decide (q.1 = c)).map (·.2)
def negB (neg : Bool) (m : EM D) : EM D := bd (nox m) fun d => bd (asB d) fun b => rt (.bl (b != neg))
def eqDyn (eqs : EqT) (ord : OrT) (neg : Bool) (x y : D) : EM D := fun cs => match insOf cs x with
  | some (c, _) => match tagOf cs y with
    | some t => match ord.at_ c t with
      | some true => match eqs.at_ c with
        | some Fe => negB neg (Fe [x, y] []) cs
        | none => .no
      | some false => match t with
        | .c c' => match eqs.at_ c' with
          | some Fe => negB neg (Fe [y, x] []) cs
          | none => .no
        | _ => .no
      | none => .no
    | none => .no
  | none => rd (fun cs => (eqB cs x y).map fun b => .bl (b != neg)) cs
def xEq (eqs : EqT) (ord : OrT) (neg : Bool) (fa fb : XE) : XE := fun l => bd (fa l) fun x => bd (fb l) fun y => nox (eqDyn eqs ord neg x y)
section
variable {X : Cx} {k j : Nat} {T : Tb} {eqs : EqT} {ord : OrT}
theorem RmG.in1 {k : Nat} {A : Around} (r : RmG (k + 1) A) : RmG k A.in1 := ⟨r.room.in1, r.gd⟩
end
section
variable {X : Cx} {z : ZT} {e a b : Expr} {fa fb : XE} {eqs : EqT} {ord : OrT} {neg : Bool}
end
end F

/-! the entry: a law -/
namespace F
open PySem PySem.Spec PyProof.Rows L2 Evl
/-- what is laid ahead of the law's call -/
def onlyAt (a : Addr) (o : Obj) (u : HO) : Hp := fun b => if b = a then some (.frz o u) else none
theorem onlyAt_some {a b : Addr} {o : Obj} {u v : HO} (h : onlyAt a o u b = some v) : b = a ∧ v = .frz o u := by
  unfold onlyAt at h
  split at h
  · rename_i e
    cases h
    exact ⟨e, rfl⟩
  · cases h
section
variable {P : Program} {w : World} {K : PySem.W.Frag} {mg mb : Str → Option Value} {k : Nat} {fa a : Addr} {s1 : Shared} {us : List Value} {ns : List Int} {Fl : List D → List D → EM D}
/-- from a heap at which nothing but the script is tracked -/
theorem enter {H : Hp} (hn : s1.heap.Ns mainGlobals mg) (hb : s1.heap.Ns builtinsNs mb) (hbb : ∀ x : Str, x ≠ "__name__" → mb x = bootBuiltins x) (hlim : s1.heap.NoLimit) (hg : s1.gens = #[]) (ha : s1.heap.get? a = some { cls := .type "list", data := .seq us.toArray })
    (hr : RmG k callerA) (hF : ∀ base : Heap, K.In base → base.Ns mainGlobals mg → FnG P w K mg base k fa [] Fl) (hl : ∀ cs, ∃ cs', Fl [.wls (ns.map D.int)] [] cs = .ok (.bl true) cs')
    (hS : SqL K H a (ns.map V.int)) (ok : HOk P w H s1.heap) (on : ∀ b u, H b = some u → b = a ∧ ∃ o xs, u = .frz o (.lst xs)) (KB : K.In (hidT s1.heap H)) :
    codeAny (model P w) callerA (.call (.ref fa) ⟨[.ref a], []⟩) (fun r s' => r = .ok (.ret (.bool true)) ∧ OldK s1.heap s'.heap ∧ s'.os = s1.os ∧ AllBare s'.gens) s1 := by
  have dictFree : ∀ {b : Addr} {o : Obj} {es : Array DictEntry} {ep : Nat}, s1.heap.get? b = some o → o.data = .dict es ep → H b = none := fun {b o es ep} e dd => by
    cases q : H b with
    | none => rfl
    | some u =>
      obtain ⟨rfl, _⟩ := on b u q
      rw [ha] at e
      cases e
      exact nomatch dd
  have ns2 : ∀ {b : Addr} {m : Str → Option Value}, s1.heap.Ns b m → (hidT s1.heap H).Ns b m := fun {b m} hm => by
    obtain ⟨o, es, ep, e, dd, rest⟩ := hm
    exact ⟨o, es, ep, hidT_get e (dictFree e dd), dd, rest⟩
  have lim2 : (hidT s1.heap H).NoLimit := by
    obtain ⟨mc, h1, h2⟩ := hlim
    exact ⟨mc, ns2 h1, h2⟩
  have md : Mod K mg (hidT s1.heap H) := { kin := KB, glob := ns2 hn, blt := ⟨mb, ns2 hb, hbb⟩, nolimit := lim2 }
  have env : Env0 P w K mg (hidT s1.heap H) callerA [] s1 H := { frames := rfl, mod := md, bs := fun b o e => of_hidT e, bsz := Nat.le_of_eq (hidT_size _ _), funs := trivial, frf := fun b hb => (List.not_mem_nil hb).elim, hok := ok, bare := .of_eq hg }
  have st : S ⟨P, w, K, mg⟩ ⟨H, fun _ => none, []⟩ [] H := { g := Ex.refl _, o := (fun _ _ e => (nomatch e)), dj := (fun _ _ e => (nomatch e)), len := rfl, nd := List.nodup_nil, al := (fun _ h => (nomatch h)), fo := (fun _ h => (nomatch h)), at_ := (fun n a c h => by simp at h) }
  obtain ⟨cs', el⟩ := hl []
  have intsR : ∀ ms : List Int, RepA ⟨P, w, K, mg⟩ ⟨H, fun _ => none, []⟩ (ms.map V.int) (ms.map D.int) := fun ms => by
    induction ms with
    | nil => exact .nil
    | cons m ms ih => exact .cons (.int m) ih
  have sp : spF ⟨P, w, K, mg⟩ Fl [.ref a] [] H (fun v _ => v = .bl true) (fun _ _ _ => False) := ⟨_, [], [.wls (ns.map D.int)], [], st, .cons (.wls hS (intsR ns)) .nil, .nil, by
    unfold wp
    rw [el]
    exact fun W' v H' _ _ _ rv => rep_bl rv⟩
  refine codeAny_mono (hF _ KB (ns2 hn) callerA [] s1 H [.ref a] [.ref a] [] [] _ _ hr env (.cons rfl .nil) .nil rfl sp) fun rr s' h => ?_
  cases rr with
  | error e =>
    obtain ⟨_, _, _, _, _, _, _, _, _, _, _, _, he⟩ := h
    exact he.elim
  | ok fl =>
    cases fl with
    | ret u =>
      obtain ⟨v, H', h1, h2, h3, h4, h5, h6⟩ := h
      have h6' : v = .bl true := h6
      subst h6'
      obtain rfl : u = Value.bool true := h5
      refine ⟨rfl, OldK.of_keep fun b o e => ?_, h1, h2⟩
      cases q : H b with
      | none => exact h3.keep b o e q (fun z => (List.not_mem_nil (show b ∈ ([] : List Addr) from z)).elim) (by simp)
      | some v =>
        obtain ⟨_, ob, xs, rfl⟩ := on b v q
        obtain ⟨e1, _⟩ := ok b _ q
        obtain ⟨e2, _⟩ := h4 b _ (h3.frzs b ob _ q)
        rw [e] at e1
        cases e1
        exact e2
    | next => exact False.elim h
    | brk => exact False.elim h
    | cont => exact False.elim h
end
/-- the law's def computes Fl, and that is True at every script -/
theorem walk_F {l : PySem.W.OpenLaw} {n k : Nat} {q : Program} {loose : List Str} {XP : (Str → Option Value) → Heap → Prop} {YP : World → Heap → Prop} {d : DefRec} {Fl : List D → List D → EM D} (hn : l.most = some n) (hn2 : n ≤ sizeLine) (hdf : d.params.defaults = []) (hr : RmG k callerA)
    (hF : ∀ (w : World) (mg : Str → Option Value) (fa : Addr) (h : Heap), YP w h → h.Ns mainGlobals mg → mg d.name = some (.ref fa) → ∃ K : PySem.W.Frag, K.In h ∧ ∀ base : Heap, K.In base → base.Ns mainGlobals mg → FnG l.prog w K mg base k fa [] Fl)
    (hl : ∀ (ns : List Int), ns.length ≤ n → ∀ cs, ∃ cs', Fl [.wls (ns.map D.int)] [] cs = .ok (.bl true) cs') : PySem.W.WalkO q loose XP YP l.row.toRowW d [] (fun f vs => PySem.call f vs) := by
  refine Att.attach_call hn hdf fun w s0 s1 mg mb fa o pm cd doc a vs ns G Y ho hd hcd hmg hobj hints hlen hg => ?_
  obtain ⟨K, KX, hF⟩ := hF w mg fa _ Y G.T.g hmg
  have rv := vals_ints hints
  have lv := hints.length
  have lz : ns.length ≤ sizeLine := Nat.le_trans hlen hn2
  cases hk : K.lookup a with
  | some ob =>
    have e := KX a ob hk
    rw [hobj] at e
    cases e
    refine enter (H := fun _ => none) G.T.g G.T.b G.T.builtins G.T.nolimit hg hobj hr hF (hl ns hlen) (.inr ⟨_, vs.toArray, _, hk, rfl, rfl, rfl, by rw [List.size_toArray, lv]; exact lz, by simpa using rv⟩) (fun b u e => nomatch e) (fun b u e => nomatch e) fun b o e => hidT_get (KX b o e) rfl
  | none =>
    refine enter (H := onlyAt a { cls := .type "list", data := .seq vs.toArray } (.lst (ns.map V.int))) G.T.g G.T.b G.T.builtins G.T.nolimit hg hobj hr hF (hl ns hlen) (.inl (.inr ⟨_, if_pos rfl⟩)) (fun b u e => ?_) (fun b u e => ?_) fun b o e => ?_
    · obtain ⟨rfl, rfl⟩ := onlyAt_some e
      exact ⟨hobj, by rw [List.length_map]; exact lz, vs, _, rv, hobj⟩
    · obtain ⟨e1, e2⟩ := onlyAt_some e
      exact ⟨e1, _, _, e2⟩
    · refine hidT_get (KX b o e) (if_neg fun z => ?_)
      rw [z, hk] at e
      cases e
end F

/-! the head's facts, by Bools -/
namespace F
open PySem PySem.Spec PyProof.Rows L2 He E
def gloB (K : PySem.W.Frag) (x : Str) : Bool := (Fa.glo x).ok K
def tagA (K : PySem.W.Frag) : Tag → Value
  | .b n => .type n
  | .c x => .ref (ga K x)
def tagG (K : PySem.W.Frag) : Tag → Bool
  | .b _ => true
  | .c x => gloB K x
def vD : D → Option V
  | .non => some .non
  | .bl b => some (.bl b)
  | .int i => some (.int i)
  | .str x => if x.length ≤ 1000000 then some (.str x) else none
  | _ => none
theorem vD_ok {Z : Sx} {W : Wd} {d : D} {v : V} (h : vD d = some v) : Rep Z W v d := by
  cases d with
  | non => cases h; exact .non
  | bl b => cases h; exact .bl b
  | int i => cases h; exact .int i
  | str x =>
    have h' : (if x.length ≤ 1000000 then some (V.str x) else none) = some v := h
    by_cases c : x.length ≤ 1000000
    · rw [if_pos c] at h'
      cases h'
      exact .str (Nat.le_trans c (by decide))
    · rw [if_neg c] at h'
      cases h'
  | _ => cases h
def tbB (K : PySem.W.Frag) (T : Tb) : Bool := (T.cis.all fun q => gloB K q.1 && (clsFB K (ga K q.1) && noAtB K (ga K q.1) q.2)) && ((T.isi.all fun q => tagG K q.1 && (tagG K q.2.1 && decide (PySem.W.kitOne K (tagA K q.1) (tagA K q.2.1) = some q.2.2))) &&
  T.con.all fun q => gloB K q.1 && (match vD q.2.2 with
    | some v => conB K (ga K q.1) q.2.1 v
    | none => false))
def teB (K : PySem.W.Frag) (T : Te) : Bool := (T.exc.all fun q => gloB K q.1 && (xfB K (ga K q.1) && (excCB K (ga K q.1) && noAtB K (ga K q.1) q.2))) && T.exm.all fun q => gloB K q.1 && (tagG K q.2.1 && decide (PySem.W.exmOne K (.ref (ga K q.1)) (tagA K q.2.1) = some q.2.2))
def ordB (K : PySem.W.Frag) (T : Tb) (o : OrT) : Bool := o.all fun q => gloB K q.1 && (tagG K q.2.1 && ((match q.2.1 with | .c c => T.has c | .b _ => true) && (if q.2.2 = true then PySem.W.notFirst K (ga K q.1) (tagA K q.2.1) else !decide (tagA K q.2.1 = .ref (ga K q.1)) && decide (PySem.W.subIn K (tagA K q.2.1) (.ref (ga K q.1)) = some true))))
section
variable {P : Program} {w : World} {K : PySem.W.Frag} {mg : Str → Option Value} {h : Heap}
theorem tagG_ok (X : K.In h) (G : h.Ns mainGlobals mg) {t : Tag} (e : tagG K t = true) : tagV ⟨P, w, K, mg⟩ t = some (tagA K t) := by
  cases t with
  | b n => rfl
  | c x => exact glo_ok X G e
theorem tbB_ok {T : Tb} (X : K.In h) (G : h.Ns mainGlobals mg) (e : tbB K T = true) : TbOk ⟨P, w, K, mg⟩ T := by
  obtain ⟨e1, e⟩ := ba e
  obtain ⟨e2, e3⟩ := ba e
  refine ⟨fun q hq => ?_, fun q hq => ?_, fun q hq => ?_⟩
  · obtain ⟨h1, h2⟩ := ba (List.all_eq_true.mp e1 q hq)
    obtain ⟨h3, h4⟩ := ba h2
    exact ⟨_, glo_ok X G h1, clsFB_ok h3, fun f hf => noAtB_ok h4 hf⟩
  · obtain ⟨h1, h2⟩ := ba (List.all_eq_true.mp e2 q hq)
    obtain ⟨h3, h4⟩ := ba h2
    exact ⟨_, _, tagG_ok X G h1, tagG_ok X G h3, of_decide_eq_true h4⟩
  · obtain ⟨h1, h2⟩ := ba (List.all_eq_true.mp e3 q hq)
    cases qv : vD q.2.2 with
    | none => rw [qv] at h2; cases h2
    | some v =>
      rw [qv] at h2
      obtain ⟨u, hu⟩ := conB_ok h2
      exact ⟨_, v, u, glo_ok X G h1, hu, fun W => vD_ok qv⟩
theorem teB_ok {T : Te} (X : K.In h) (G : h.Ns mainGlobals mg) (e : teB K T = true) : TeOk ⟨P, w, K, mg⟩ T := by
  obtain ⟨e1, e2⟩ := ba e
  refine ⟨fun q hq => ?_, fun q hq => ?_⟩
  · obtain ⟨h1, h2⟩ := ba (List.all_eq_true.mp e1 q hq)
    obtain ⟨h3, h4⟩ := ba h2
    obtain ⟨h5, h6⟩ := ba h4
    exact ⟨_, glo_ok X G h1, xfB_ok h3, excCB_ok h5, fun f hf => noAtB_ok h6 hf⟩
  · obtain ⟨h1, h2⟩ := ba (List.all_eq_true.mp e2 q hq)
    obtain ⟨h3, h4⟩ := ba h2
    exact ⟨_, _, glo_ok X G h1, tagG_ok X G h3, of_decide_eq_true h4⟩
end
/-- the module's names -/
structure Fx (K : PySem.W.Frag) (mg : Str → Option Value) (free glo : List Str) (nts : List (Str × Int)) (xts : List (Str × Str)) : Prop where
  fr : ∀ (i : Nat) {x : Str}, free[i]? = some x → mg x = none
  gl : ∀ (i : Nat) {x : Str}, glo[i]? = some x → mg x = some (.ref (ga K x))
  it : ∀ (i : Nat) {x : Str} {n : Int}, nts[i]? = some (x, n) → ∃ u, mg x = some u ∧ RelV (.int n) u
  st : ∀ (i : Nat) {x y : Str}, xts[i]? = some (x, y) → ∃ u, mg x = some u ∧ RelV (.str y) u
def fxB (K : PySem.W.Frag) (free glo : List Str) (nts : List (Str × Int)) (xts : List (Str × Str)) : Bool := (free.all fun x => (Fa.free x).ok K) && ((glo.all fun x => gloB K x) && ((nts.all fun q => (Fa.int q.1 q.2).ok K) && xts.all fun q => (Fa.str q.1 q.2).ok K))
theorem fxB_ok {K : PySem.W.Frag} {mg : Str → Option Value} {h : Heap} {free glo : List Str} {nts : List (Str × Int)} {xts : List (Str × Str)} (X : K.In h) (G : h.Ns mainGlobals mg) (e : fxB K free glo nts xts = true) : Fx K mg free glo nts xts := by
  obtain ⟨e1, e⟩ := ba e
  obtain ⟨e2, e⟩ := ba e
  obtain ⟨e3, e4⟩ := ba e
  refine ⟨fun i x hx => free_ok X G (List.all_eq_true.mp e1 x (List.mem_of_getElem? hx)), fun i x hx => glo_ok X G (List.all_eq_true.mp e2 x (List.mem_of_getElem? hx)), fun i x n hx => ?_, fun i x y hx => ?_⟩
  · obtain ⟨t, z⟩ := int_ok X G (List.all_eq_true.mp e3 _ (List.mem_of_getElem? hx))
    exact ⟨_, z, t, rfl⟩
  · obtain ⟨t, z⟩ := str_ok X G (List.all_eq_true.mp e4 _ (List.mem_of_getElem? hx))
    exact ⟨_, z, t, rfl⟩
/-- own exceptions: the class, its base -/
inductive XB4 | v | o | l | r
def xbT : XB4 → List Value × String
  | .v => (tlV, "ValueError.__new__")
  | .o => (tlO, "OverflowError.__new__")
  | .l => (tlL, "LookupError.__new__")
  | .r => (tlR, "RuntimeError.__new__")
def exrB (K : PySem.W.Frag) (x : Str) (b : XB4) (ns : List Str) : Bool := gloB K x && (oexB K (ga K x) (xbT b).1 (xbT b).2 && (eqO (PySem.W.findIn K (.ref (ga K x)) "__init__") (some (some (.ref (ma K (ga K x) "__init__")))) && (decide (PySem.W.typeIn K (.ref (ma K (ga K x) "__init__")) = some (.type "function")) && noAtB K (ga K x) ns)))
theorem exrB_ok {P : Program} {w : World} {K : PySem.W.Frag} {mg : Str → Option Value} {h : Heap} {base : Heap} {k : Nat} {x : Str} {b : XB4} {ns ps : List Str} {fd : FuncData} (X : K.In h) (G : h.Ns mainGlobals mg) (e : exrB K x b ns = true)
    (F : FnOk P w K mg base CX0 k (ma K (ga K x) "__init__") fd ps (spE K (ga K x) ns)) (bi : Binds K fd ps []) : ExrG P w K mg base k x ns := by
  obtain ⟨h1, e⟩ := ba e
  obtain ⟨h2, e⟩ := ba e
  obtain ⟨h3, e⟩ := ba e
  obtain ⟨h4, h5⟩ := ba e
  have ox : OexB K (ga K x) := by
    cases b with
    | v => exact oexB_ok base_V h2
    | o => exact oexB_ok base_O h2
    | l => exact oexB_ok base_L h2
    | r => exact oexB_ok base_R h2
  exact ⟨⟨_, ⟨⟨_, fd, ps, ox, eqO_ok h3, of_decide_eq_true h4, F, bi⟩, glo_ok X G h1⟩, fun f hf => noAtB_ok h5 hf⟩⟩
/-- self.f = y -/
theorem ox1 {K : PySem.W.Frag} {Cl : Addr} {f : Str} {vs : List V} {H : Hp} {Q : VK} {Er : XK} (h : spE K Cl [f] vs H Q Er) : tOsB K f (tVar 0) (tVar 1) { nx := fun _ H' => Q .non H', rt := Q } (vs.map some) H := by
  obtain ⟨a, ys, rfl, hl, ox, hno, ha, q⟩ := h
  match ys, hl with
  | [y], _ => exact ⟨y, rfl, .ref a, rfl, a, Cl, rfl, ox, hno f (by simp), .inl ⟨ha, fun dx h1 h2 => q dx h1 h2⟩⟩
theorem ox2 {K : PySem.W.Frag} {Cl : Addr} {f g : Str} {vs : List V} {H : Hp} {Q : VK} {Er : XK} (h : spE K Cl [f, g] vs H Q Er) : tSeq (tOsB K f (tVar 0) (tVar 1)) (tOsB K g (tVar 0) (tVar 2)) { nx := fun _ H' => Q .non H', rt := Q } (vs.map some) H := by
  obtain ⟨a, ys, rfl, hl, ox, hno, ha, q⟩ := h
  match ys, hl with
  | [y, u], _ =>
    refine ⟨y, rfl, .ref a, rfl, a, Cl, rfl, ox, hno f (by simp), .inl ⟨ha, fun dx h1 h2 => ?_⟩⟩
    refine ⟨u, rfl, .ref a, rfl, a, Cl, rfl, ox, hno g (by simp), .inr ⟨dx, [(f, y)], upd_same, by rw [upd_ne h2, upd_same], by simp, ?_⟩⟩
    have e : upd (upd (upd H dx (exd dx [(f, y)])) a (exo a Cl (some dx))) dx (exd dx [(g, u), (f, y)]) = upd (upd H dx (exd dx ([f, g].zip [y, u]).reverse)) a (exo a Cl (some dx)) := by
      funext b
      by_cases hb : b = dx
      · rw [hb, upd_same, upd_ne h2, upd_same]
        rfl
      · rw [upd_ne hb]
        by_cases hba : b = a
        · rw [hba, upd_same, upd_same]
        · rw [upd_ne hba, upd_ne hba, upd_ne hb, upd_ne hb]
    show Q .non _
    rw [e]
    exact q dx h1 h2
end F

/-! len(o) by an own __len__ -/
namespace F
open PySem L2 Evl PyProof.Rows
/-- own special methods: class, the method as a function -/
structure SpOk (P : Program) (w : World) (K : PySem.W.Frag) (mg : Str → Option Value) (base : Heap) (k : Nat) (m : Str) (t : EqT) : Prop where
  at_ : ∀ q ∈ t, ∃ Cl g, mg q.1 = some (.ref Cl) ∧ PySem.W.findIn K (.ref Cl) m = some (some (.ref g)) ∧ PySem.W.isFn K (.ref g) = true ∧ FnG P w K mg base k g [] q.2
theorem SpOk.get {P : Program} {w : World} {K : PySem.W.Frag} {mg : Str → Option Value} {base : Heap} {k : Nat} {m : Str} {t : EqT} (o : SpOk P w K mg base k m t) {c : Str} {Fe : List D → List D → EM D} {Cl : Addr} (h : t.at_ c = some Fe) (hm : mg c = some (.ref Cl)) :
    ∃ g, PySem.W.findIn K (.ref Cl) m = some (some (.ref g)) ∧ PySem.W.isFn K (.ref g) = true ∧ FnG P w K mg base k g [] Fe := by
  unfold EqT.at_ at h
  cases q : t.find? fun q => decide (q.1 = c) with
  | none => rw [q] at h; cases h
  | some r =>
    rw [q] at h
    cases h
    have hr := List.find?_some q
    obtain ⟨Cl', g, h4, h5, h6, h7⟩ := o.at_ r (List.mem_of_find?_eq_some q)
    rw [of_decide_eq_true hr, hm] at h4
    cases h4
    exact ⟨g, h5, h6, h7⟩
def asN (d : D) : EM D := match d with
  | .int n => if 0 ≤ n ∧ n < 1000000000 then rt (.int n) else no
  | _ => no
/-- len(d), d an instance -/
def lenDyn (t : EqT) (d : D) : EM D := fun cs => match insOf cs d with
  | some (c, _) => match t.at_ c with
    | some Fe => bd (nox (Fe [d] [])) asN cs
    | none => .no
  | none => .no
def xLenI (t : EqT) (fa : XE) : XE := fun l => bd (fa l) fun d => nox (lenDyn t d)
section
variable {X : Cx} {k j : Nat} {t : EqT}
end
section
variable {X : Cx} {z : ZT} {e : Expr} {fa : XE} {k j : Nat} {t : EqT} {p pos : Pos}
end
end F

/-! x in o by an own __contains__ -/
namespace F
open PySem L2 Evl PyProof.Rows
def inDyn (t : EqT) (neg : Bool) (x y : D) : EM D := fun cs => match insOf cs y with
  | some (c, _) => match t.at_ c with
    | some Fe => negB neg (Fe [y, x] []) cs
    | none => .no
  | none => .no
def xInI (t : EqT) (neg : Bool) (fa fb : XE) : XE := fun l => bd (fa l) fun x => bd (fb l) fun y => nox (inDyn t neg x y)
section
variable {X : Cx} {k j : Nat} {t : EqT} {neg : Bool}
end
section
variable {X : Cx} {z : ZT} {e a b : Expr} {fa fb : XE} {t : EqT} {neg : Bool}
end
end F

/-! o.f, a property whose getter does not raise -/
namespace F
open PySem L2 Evl PyProof.Rows
def propDyn (t : EqT) (d : D) : EM D := fun cs => match insOf cs d with
  | some (c, _) => match t.at_ c with
    | some Fe => nox (Fe [d] []) cs
    | none => .no
  | none => .no
def xProp (t : EqT) (fa : XE) : XE := fun l => bd (fa l) fun d => nox (propDyn t d)
section
variable {X : Cx} {z : ZT} {k j : Nat} {t : EqT} {f : Str} {e : Expr} {fa : XE} {pos : Pos}
end
end F

/-! C(), C(*a, *b), not x of any x, what is never reached, own + and |, a list of one's own that is shared from now on -/
namespace PySem.W
open PySem PySem.Calls PyProof.Rows
section
variable {M : Model} {A : Around} {E : Value → Shared → Prop} {s : Shared} {K : Frag} {env : Env} {pos p : Pos} {f : Value} {first : List Value} {Q : Value → Shared → Prop}
end
end PySem.W
namespace F
open PySem L2 Evl PyProof.Rows
section
variable {X : Cx} {z : ZT} {k j : Nat} {x : Str} {kn : List Str} {Fn : List D → List D → EM D} {e : Expr} {es : List Expr} {kws : List Keyword} {fa fe : XE} {f fk : XA} {p pos : Pos}
/-- not x, x anything that has a truth -/
def xNotT (f : XE) : XE := fun l => bd (bTru f l) fun b => rt (.bl (!b))
end
/-! ### own + and | -/
def asIns (d : D) : EM D := match d with
  | .ins c fs => rt (.ins c fs)
  | _ => no
def binDyn (t : EqT) (x y : D) : EM D := fun cs => match insOf cs x with
  | some (c, _) => match insOf cs y with
    | some (c', _) => if c = c' then match t.at_ c with
        | some Fe => bd (Fe [x, y] []) asIns cs
        | none => .no
      else .no
    | none => .no
  | none => .no
def xBinI (t : EqT) (fa fb : XE) : XE := fun l => bd (fa l) fun x => bd (fb l) fun y => binDyn t x y
structure SfOk (K : PySem.W.Frag) (mg : Str → Option Value) (t : EqT) : Prop where
  at_ : ∀ q ∈ t, ∃ Cl, mg q.1 = some (.ref Cl) ∧ PySem.W.selfFirst K Cl = true
theorem SfOk.get {K : PySem.W.Frag} {mg : Str → Option Value} {t : EqT} (o : SfOk K mg t) {c : Str} {Fe : List D → List D → EM D} {Cl : Addr} (h : t.at_ c = some Fe) (hm : mg c = some (.ref Cl)) : PySem.W.selfFirst K Cl = true := by
  unfold EqT.at_ at h
  cases q : t.find? fun q => decide (q.1 = c) with
  | none => rw [q] at h; cases h
  | some r =>
    have hr := List.find?_some q
    obtain ⟨Cl', h4, h5⟩ := o.at_ r (List.mem_of_find?_eq_some q)
    rw [of_decide_eq_true hr, hm] at h4
    cases h4
    exact h5
section
variable {X : Cx} {z : ZT} {k j : Nat} {t : EqT} {op : Operator} {m : Str} {a b : Expr} {fa fb : XE} {pos : Pos}
end
/-! ### what a slot owns is a cell from now on -/
/-! facts -/
end F

/-! enumerate(t), t a tuple -/
namespace PySem
open Sem (wp)
open AutoSeq1 (wpAny_loadPart')
section
variable {prog : Program} {w : World} {A : Around} {E : Value → Shared → Prop} {s : Shared}
end
end PySem
namespace L2
open PySem PySem.Spec PyProof.Rows
end L2
namespace F
open PySem L2 Evl PyProof.Rows
def iEnuT (f : XE) : XA := fun l => bd (f l) fun d => rd fun _ => match d with
  | .tup xs => some (numbered 0 xs)
  | _ => none
end F

/-! isinstance(x, (A, B)) of built-in types; functions that call themselves -/
namespace F
open PySem L2 Evl PyProof.Rows
section
variable {X : Cx} {z : ZT} {e c1 c2 : Expr} {fe : XE} {p pos tpos : Pos} {kk : Nat} {a b : String}
end
/-! ### functions that call themselves -/
theorem CalG.mono {P : Program} {w : World} {K : PySem.W.Frag} {mg : Str → Option Value} {base : Heap} {j k : Nat} {x : Str} {kn : List Str} {Fn : List D → List D → EM D} (c : CalG P w K mg base j x kn Fn) (h : j ≤ k) : CalG P w K mg base k x kn Fn := by
  obtain ⟨f, h1, h2, h3⟩ := c.ex
  exact ⟨f, h1.mono h, h2, h3⟩
end F

/-! functions as values: a local name that holds a function of the module -/
namespace F
open PySem PySem.Spec PyProof.Rows L2 Evl
structure FvOk (P : Program) (w : World) (K : PySem.W.Frag) (mg : Str → Option Value) (base : Heap) (k : Nat) (kn : List Str) (t : EqT) : Prop where
  ok : ∀ q ∈ t, CalG P w K mg base k q.1 kn q.2
theorem FvOk.at_ {P : Program} {w : World} {K : PySem.W.Frag} {mg : Str → Option Value} {base : Heap} {k : Nat} {kn : List Str} {t : EqT} (o : FvOk P w K mg base k kn t) {g : Str} {Fn : List D → List D → EM D} (h : t.at_ g = some Fn) : CalG P w K mg base k g kn Fn := by
  unfold EqT.at_ at h
  cases q : t.find? fun q => decide (q.1 = g) with
  | none => rw [q] at h; cases h
  | some r =>
    rw [q] at h
    cases h
    have hr := List.find?_some q
    have := o.ok r (List.mem_of_find?_eq_some q)
    rw [of_decide_eq_true hr] at this
    exact this
section
variable {X : Cx} {z : ZT} {k j i : Nat} {kn : List Str} {t : EqT} {x : Str} {p pos : Pos} {e : Expr} {es : List Expr} {kws : List Keyword} {fa fk : XA}
end
/-! a, b = a list -/
/-! x in a list that the frame owns -/
end F

/-! except (A, B, ..) as n: a tuple of classes -/
namespace PySem.W
open PySem PySem.Spec PySem.Calls PyProof.Rows
section
variable {M : Model} {K : Frag}
theorem exmAny_mem {cls : Value} : ∀ {cs : List Value} {b : Bool}, exmAny K cls cs = some b → ∀ c ∈ cs, ∃ b', exmOne K cls c = some b'
  | [], _, _, _, h => by simp at h
  | c :: cs, b, h, x, hx => by
    obtain ⟨b1, d1, x1, y1, z1⟩ := exmAny_cons h
    rcases List.mem_cons.mp hx with rfl | hx
    · exact ⟨b1, x1⟩
    · exact exmAny_mem y1 x hx
theorem exm_tupN {cs : List Value} {cls : Value} {tp e : Addr} {b : Bool} {h : Heap} (X : K.In h) (LT : Looks M h (typeOf (.ref e)) cls) (hp : h.get? tp = some { cls := .type "tuple", data := .seq cs.toArray }) (hx : exmAny K cls cs = some b) :
    Looks M h (excMatches (.ref e) (.ref tp)) b := by
  intro A Q E s k₀ q
  have k : ∀ b o, h.get? b = some o → s.heap.get? b = some o := k₀
  have LT0 : Looks M h (isInstance (.ref tp) (.type "tuple")) true := ((Looks.ld hp).andThen .now).andThen (Looks.of_pure isSubtype_tuple_tuple)
  have LT := LT.keeps k
  have LT0 := LT0.keeps k
  have hp' := k _ _ hp
  have ex : ∀ c ∈ cs, ∃ b', Looks M s.heap (isExcClass c) true ∧ Looks M s.heap (isSubtype cls c) b' ∧ exmOne K cls c = some b' := fun c hc => by
    obtain ⟨b', e⟩ := exmAny_mem hx c hc
    obtain ⟨e1, S1⟩ := exm_cls (M := M) X e
    exact ⟨b', e1.keeps k, S1.keeps k, e⟩
  obtain ⟨hh, g, d, tk, os⟩ := s
  unfold excMatches
  refine wpAny_bind (LT0.at ?_)
  dsimp only
  rw [if_pos rfl]
  first
    | refine wpAny_bind (wpAny_seqItems hp' rfl ?_)
    | refine wpAny_bind (wpAny_bind (wpAny_seqItems hp' rfl (wpAny_pure ?_)))
  dsimp only [Option.getD_some, Option.getD]
  refine wpAny_bind (wpAny_pure ?_)
  refine wpAny_bind (wpAny_forIn_list _ (fun rest _ s' => s' = ⟨hh, g, d, tk, os⟩ ∧ ∀ c ∈ rest, c ∈ cs) _ ?turn ?fin _ _ ⟨rfl, fun c hc => by simpa using hc⟩)
  case turn =>
    rintro c rest u s' ⟨rfl, hs⟩
    obtain ⟨b', e1, S1, _⟩ := ex c (hs c List.mem_cons_self)
    have hs' : ∀ x ∈ rest, x ∈ cs := fun x hx => hs x (List.mem_cons_of_mem _ hx)
    refine wpAny_bind (e1.at ?_)
    simp only [Bool.not_true, Bool.false_eq_true, if_false]
    exact wpAny_pure ⟨rfl, hs'⟩
  case fin =>
    rintro u s' ⟨rfl, _⟩
    refine wpAny_bind (LT.at ?_)
    refine wpAny_bind (wpAny_mono (wpAny_forIn_list _ (fun rest r s' => s' = ⟨hh, g, d, tk, os⟩ ∧ r.fst = none ∧ (∀ c ∈ rest, c ∈ cs) ∧ exmAny K cls rest = some b) (fun r s' => s' = ⟨hh, g, d, tk, os⟩ ∧ r.fst = if b = true then some true else none) ?turn2 ?fin2 _ _ ⟨rfl, rfl, fun c hc => by simpa using hc, by simpa using hx⟩) (fun r s' ⟨e1, e2⟩ => ?last) fun _ _ h => h)
    case turn2 =>
      rintro c rest r s' ⟨rfl, hr, hs, hb⟩
      obtain ⟨b', e1, S1, e2⟩ := ex c (hs c List.mem_cons_self)
      obtain ⟨b1, d1, x1, y1, z1⟩ := exmAny_cons hb
      rw [e2] at x1
      cases x1
      refine wpAny_bind (S1.at ?_)
      cases b' with
      | true =>
        simp only [if_true]
        refine wpAny_pure ⟨rfl, ?_⟩
        rw [z1]
        rfl
      | false =>
        simp only [Bool.false_eq_true, if_false]
        refine wpAny_pure ⟨rfl, rfl, fun x hx => hs x (List.mem_cons_of_mem _ hx), ?_⟩
        rw [y1, z1, Bool.false_or]
    case fin2 =>
      rintro r s' ⟨rfl, hr, hs, hb⟩
      have : some false = some b := hb
      cases this
      exact ⟨rfl, hr⟩
    case last =>
      subst e1
      rw [e2]
      cases b with
      | true => exact wpAny_pure q
      | false => exact wpAny_pure q
end
end PySem.W

namespace E
open PySem PySem.Spec PyProof.Rows L2 He
theorem flyZ_keeps {B : Heap} {l : List Env} {a : Addr} {Z : Obj → Prop} {h h' : Heap} (k : ∀ b o, h.get? b = some o → h'.get? b = some o) (f : HandSPX.FlyingZ B l a Z h) : HandSPX.FlyingZ B l a Z h' := by
  obtain ⟨k1, k2, k3, oe, vs, T, oT, ts, he, hz, hd, h1, h2, h4, h5, h6, h7⟩ := f
  exact ⟨fun b o e => k _ _ (k1 b o e), k2, Heap.FunFrames.of_keeps (fun b o e _ => ⟨o, k _ _ e, rfl⟩) k3, oe, vs, T, oT, ts, k _ _ he, hz, hd, h1, h2, h4, k _ _ h5, h6, h7⟩
theorem up_ext {h h3 h' : Heap} (u : h.UpToSlots h3) (k : ∀ b o, h3.get? b = some o → h'.get? b = some o) : h.UpToSlots h' := fun b o e hd => by
  obtain ⟨sl, q⟩ := u b o e hd
  exact ⟨sl, k _ _ q⟩
/-- what an except clause asks: te is read, dec tells whether a class is caught -/
def TstOk (X : Cx) (te : Expr) (dec : Value → Option Bool) : Prop := ∀ (a : Addr) (pn : List (Addr × Obj)) (s : Shared) (σ : L2.St) (H : Hp) (cls : Value) (b : Bool) (Q : Bool → Shared → Prop) (E E2 : Value → Shared → Prop), Inv (X.suite a pn) [] σ H s → PySem.W.Looks (model X.prog X.w) s.heap (typeOf (.ref a)) cls → dec cls = some b →
  (∀ h', (∀ q o, s.heap.get? q = some o → h'.get? q = some o) → Q b { s with heap := h' }) → wpAny (model X.prog X.w) (X.A.mark (some (.ref a))) (eval te X.env) (fun c s₁ => wpAny (model X.prog X.w) (X.A.mark (some (.ref a))) (excMatches (.ref a) c) Q E2 s₁) E s
theorem nm_at {X : Cx} {x : Str} {c : Value} {np : Pos} (hc : Names X x c) {a : Addr} {pn : List (Addr × Obj)} {s : Shared} {σ : L2.St} {H : Hp} {Q : Value → Shared → Prop} {E : Value → Shared → Prop} (I : Inv (X.suite a pn) [] σ H s) (q : Q c s) : wpAny (model X.prog X.w) (X.A.mark (some (.ref a))) (eval (.Name x np) X.env) Q E s := by
  obtain ⟨hg, hdbg, hm | ⟨hm, hv, hnn⟩⟩ := hc
  · exact ld_glob (X := X.suite a pn) I hg hm q hdbg
  · exact ld_blt (X := X.suite a pn) I hg hm hv q hnn hdbg
theorem tst_name {X : Cx} {x : Str} {c : Value} {np : Pos} (hc : Names X x c) : TstOk X (.Name x np) (fun cls => PySem.W.exmOne X.K cls c) := fun a pn s σ H cls b Q E E2 I LT e q =>
  nm_at hc I ((PySem.W.exm_one (M := model X.prog X.w) I.kIn LT e).here (q s.heap fun _ _ z => z))
inductive NmsL (X : Cx) : List Expr → List Value → Prop
  | nil : NmsL X [] []
  | cons {x : Str} {c : Value} {np : Pos} {es : List Expr} {cs : List Value} : Names X x c → NmsL X es cs → NmsL X (.Name x np :: es) (c :: cs)
theorem tst_tup {X : Cx} {es : List Expr} {cs : List Value} {kk : Nat} {tpos : Pos} (hc : NmsL X es cs) (hl : cs.length ≤ 1000) : TstOk X (.Tuple es kk tpos) (fun cls => PySem.W.exmAny X.K cls cs) := fun a pn s σ H cls b Q E E2 I LT e q => by
  refine wpAny_Tuple ?_
  have items : ∀ {es : List Expr} {cs : List Value}, NmsL X es cs → ∀ {R : List Value → Shared → Prop} {E : Value → Shared → Prop}, R cs s → wpAny (model X.prog X.w) (X.A.mark (some (.ref a))) (spliced (backTo tpos (starEach es X.env))) R E s := by
    intro es cs h
    induction h with
    | nil => exact fun {R E} r => wpAny_items_nil r
    | cons hx hr ih => exact fun {R E} r => wpAny_items_cons (nm_at hx I (ih r))
  refine items hc ⟨Nat.le_trans hl (by decide), ?_⟩
  have kp : ∀ q o, s.heap.get? q = some o → (s.heap.push { cls := .type "tuple", data := .seq cs.toArray }).get? q = some o := fun _ _ z => Heap.get?_push_of_some _ z
  exact (PySem.W.exm_tupN (I.kIn.keeps kp) (LT.keeps kp) (Heap.get?_push_size s.heap rfl) e).here (q _ kp)
abbrev ClT := (Value → Option Bool) × Nat × (Addr → Value → Option Addr → TS)
def wManyT (Wout : WX) (D : Ends) : List ClT → WX
  | [] => Wout
  | (dec, i, ts) :: r => fun cls d σ H => ∃ b, dec cls = some b ∧ (b = true → ∀ a, H a = none → ts a cls d (endsI i D) (σ.set i (some (.ref a))) H) ∧ (b = false → wManyT Wout D r cls d σ H)
inductive HdsT (X : Cx) : List ExceptHandler → List ClT → Prop
  | nil : HdsT X [] []
  | cons {te : Expr} {n : Str} {dec : Value → Option Bool} {i : Nat} {ts : Addr → Value → Option Addr → TS} {b₀ : Stmt} {suite : List Stmt} {pos' : Pos} {hds : List ExceptHandler} {l : List ClT} (hc : TstOk X te dec) (hi : X.N[i]? = some n) (hln : X.env.kindOf n = some .local)
      (hsu : ∀ (a : Addr) (oe : Obj) (cls : Value) (d : Option Addr) (pn : List (Addr × Obj)), L2N.Zn cls d oe → (∃ vs, oe.data = .fields vs) → PSs (X.suite a ((a, oe) :: pn)) (b₀ :: suite) (ts a cls d)) (r : HdsT X hds l) :
      HdsT X (.ExceptHandler (some te) (some n) (b₀ :: suite) pos' :: hds) ((dec, i, ts) :: l)
section
variable {X : Cx} {body : List Stmt} {h₀ : ExceptHandler} {hds : List ExceptHandler} {l : List ClT} {pos : Pos} {tb : WX → TS} {Wout : WX}
theorem ps_try_manyT (hs : X.stack = X.env :: X.outer) (hf : X.env.frame = some X.env.locals) (hN : X.N.Nodup) (tk : L2N.Takes X Wout)
    (hb : ∀ (W : WX) (pn : List (Addr × Obj)) (xe : Value → Shared → Prop), L2N.Takes (X.tr pn xe) W → PassesOwn (model X.prog X.w) X.A X.env xe → PSs (X.tr pn xe) body (tb W))
    (hh : HdsT X (h₀ :: hds) l) : PS X (.Try body (h₀ :: hds) [] [] pos) (fun D σ H => tb (wManyT Wout D l) D σ H) := by
  refine ⟨fun pins s σ H D I h => ?_⟩
  have ok := I.ok
  have hfr : X.A.frames = some (X.env :: X.outer) := by rw [ok.frames, hs]
  refine wpAny_Try_except ?_
  refine wpAny_mono ((hb (wManyT Wout D l) (X.pn ++ pins) (fun e s₁ => wpAny (model X.prog X.w) X.A (noteFrame e X.env) (fun _ s₂ => wpAny (model X.prog X.w) X.A (setFlight e none) (fun _ s₃ =>
    wpAny (model X.prog X.w) X.A (handleBy e X.env (h₀ :: hds)) (SP X pins D) X.xe s₃) X.xe s₂) X.xe s₁) (fun u s' xx => ?_) PassesOwn.looking).run [] s σ H D (I.toTry _) h) (fun f s1 hsp => ?_) (fun e s1 he => he)
  · obtain ⟨a, B, sI, pins', σ', H', cls, d, rfl, J', nb, up, sky, na, os, ag, w⟩ := xx
    have J : Inv X pins σ' H' sI := J'.ofTry ok
    have sky' : Sky B (X.env :: X.outer) a (L2N.Zn cls d) X.env.locals s'.heap := by rw [← hs]; exact sky
    show wpAny (model X.prog X.w) X.A (noteFrame (.ref a) X.env) _ _ _
    refine L2N.Sky.land L2N.Zn.steady hfr hf sky' fun h3 fl3 up3 => ?_
    obtain ⟨oe3, vs3, he3, hz3, hd3⟩ := fl3.there
    have notFr : ∀ {h : Heap} {o : Obj} {vs : Array Value}, h.FunFrames B (X.env :: X.outer) → h.get? a = some o → o.data = .fields vs → a ∉ frs (X.env :: X.outer) := fun {h o vs} ff e dd hm => by
      obtain ⟨_, o', e', hnf⟩ := ff.mem hm
      rw [e] at e'; cases e'
      exact hnf _ dd
    have nfr := notFr fl3.2.2.1 he3 hd3
    have nL : a ≠ X.env.locals := fun z => nfr (List.mem_filterMap.mpr ⟨X.env, List.mem_cons_self, by rw [hf, z]⟩)
    have nF : a ∉ X.fs := fun hm => by
      obtain ⟨e, he, q⟩ := List.mem_filterMap.mp hm
      exact nfr (List.mem_filterMap.mpr ⟨e, List.mem_cons_of_mem _ he, q⟩)
    have go : ∀ {hds' : List ExceptHandler} {l' : List ClT}, HdsT X hds' l' → ∀ (h3 : Heap), HandSPX.FlyingZ B (X.env :: X.outer) a (L2N.Zn cls d) h3 → s'.heap.UpToSlots h3 → wManyT Wout D l' cls d σ' H' →
        wpAny (model X.prog X.w) X.A (handleBy (.ref a) X.env hds') (SP X pins D) X.xe { s' with heap := h3 } := by
      intro hds' l' hk
      induction hk with
      | nil =>
        intro h3 fl3 up3 w
        refine wpAny_handleBy_nil ?_
        obtain ⟨k1, k2, k3, oe, vs, T, oT, ts', he, hz, hd, h1, hr⟩ := id fl3
        unfold PySem.passOn
        refine wpAny_bind (wpAny_field he hd h1 ?_)
        rw [if_neg (show ¬ ((Value.ref T == Value.none) = true) from by simp)]
        have fin : wpAny (model X.prog X.w) X.A (setFlight (.ref a) X.env.frame) (fun _ s4 => wpAny (model X.prog X.w) X.A (throw (.ref a) : Sem Flow) (SP X pins D) X.xe s4) X.xe { s' with heap := h3 } := by
          rw [hf]
          refine HandSPX.setFlight_upZ fl3 fun h4 hh4 up4 => wpAny_throw (tk _ _ ?_)
          exact ⟨a, B, sI, pins, σ', H', cls, d, rfl, J, nb, (up.trans up3).trans up4, .inr (.inr (by rw [hs]; exact hh4)), na, os, ag, w⟩
        first
          | exact wpAny_bind (wpAny_pure (wpAny_bind fin))
          | exact wpAny_bind fin
      | @cons te n dec i ts b₀ suite pos' hds2 l2 hc hi hln hsu r ih =>
        intro h3 fl3 up3 w
        have J3 : Inv X pins σ' H' { s' with heap := h3 } := J.landed nb fl3.1 (up.trans up3) os ag
        obtain ⟨oe3, vs3, he3, hz3, hd3⟩ := fl3.there
        have S3 := J3.suite he3 hd3 na nL nF
        obtain ⟨b, hb1, hyes, hno⟩ := w
        refine wpAny_handleBy_cons (codeAny_handlers_test ?_) (by intro q; cases q)
        have LT : PySem.W.Looks (model X.prog X.w) h3 (typeOf (.ref a)) cls := fun A Q E s k q => wpAny_typeOf_ref (k _ _ he3) (by rw [hz3.1]; exact q)
        refine hc a ((a, oe3) :: (X.pn ++ pins)) { s' with heap := h3 } σ' H' cls b _ _ _ S3 LT hb1 fun hx keep => ?_
        have flx : HandSPX.FlyingZ B (X.env :: X.outer) a (L2N.Zn cls d) hx := flyZ_keeps keep fl3
        have upx : s'.heap.UpToSlots hx := up_ext up3 keep
        cases b with
        | true =>
          refine codeAny_handlers_suite_as ?_
          refine HandSPX.lands_againZ flx fun h4 fl4 up4 => ?_
          have J4 : Inv X pins σ' H' { s' with heap := h4 } := J.landed nb fl4.1 ((up.trans upx).trans up4) os ag
          obtain ⟨oe4, vs4, he4, hz4, hd4⟩ := fl4.there
          have S4 := J4.suite he4 hd4 na nL nF
          refine store_ok (X := X.suite a ((a, oe4) :: (X.pn ++ pins))) (v := .ref a) S4 hN hi (.inl hln) rfl (fun s5 S5 => ?_) (.inr hln)
          refine wpAny_mono ((hsu a oe4 cls d (X.pn ++ pins) hz4 ⟨_, hd4⟩).run [] s5 _ H' _ S5 (hyes rfl a na)) (fun f s6 hsp => ?_) (fun _ _ z => False.elim z)
          have end_ : ∀ {σ6 : L2.St} {H6 : Hp} {Q : Shared → Prop}, Inv (X.suite a ((a, oe4) :: (X.pn ++ pins))) [] σ6 H6 s6 → (∀ s7, Inv X pins (σ6.set i none) H6 s7 → Q s7) →
              wpAny (model X.prog X.w) X.A (do bindName X.env n .none; unbindBehindTheSuite X.env n pos') (fun _ s7 => Q s7) X.xe s6 := fun {σ6 H6 Q} S6 hq => gone_ok (S6.unsuite ok) hN hi hln hq
          cases f with
          | next =>
            obtain ⟨σ6, H6, S6, q6⟩ := hsp
            exact end_ S6 fun s7 J7 => ⟨_, _, J7, q6⟩
          | brk =>
            obtain ⟨σ6, H6, S6, q6⟩ := hsp
            exact end_ S6 fun s7 J7 => ⟨_, _, J7, q6⟩
          | cont =>
            obtain ⟨σ6, H6, S6, q6⟩ := hsp
            exact end_ S6 fun s7 J7 => ⟨_, _, J7, q6⟩
          | ret u =>
            obtain ⟨v6, σ6, H6, S6, r6, q6⟩ := hsp
            exact end_ S6 fun s7 J7 => ⟨_, _, _, J7, r6, q6⟩
        | false =>
          show wpAny _ X.A (handleBy (.ref a) X.env hds2) _ _ _
          exact ih hx flx upx (hno rfl)
    exact go hh h3 fl3 up3 w
  · cases f with
    | next =>
      obtain ⟨σ', H', J', q⟩ := hsp
      exact wpAny_execs_nil ⟨σ', H', J'.ofTry ok, q⟩
    | brk =>
      obtain ⟨σ', H', J', q⟩ := hsp
      exact ⟨σ', H', J'.ofTry ok, q⟩
    | cont =>
      obtain ⟨σ', H', J', q⟩ := hsp
      exact ⟨σ', H', J'.ofTry ok, q⟩
    | ret u =>
      obtain ⟨v, σ', H', J', r, q⟩ := hsp
      exact ⟨v, σ', H', J'.ofTry ok, r, q⟩
end
end E

/-! try with clauses that name a tuple of classes -/
namespace F
open PySem PySem.Spec PyProof.Rows L2 Evl
/-- any of some classes -/
def Te.ms (T : Te) (x : Str) : List Tag → Option Bool
  | [] => some false
  | t :: r => match T.m x t, T.ms x r with
    | some b, some d => some (b || d)
    | _, _ => none
abbrev ClzT := List Tag × Nat × XS
def handT (T : Te) (x : Exn) (l : Loc) (cs : Cells) : List ClzT → SO
  | [] => .go (.ex x l) cs
  | (ts, i, su) :: r => match T.ms x.c ts with
    | some true => if i < l.length then endX i (su (l.set i (.exn x)) cs) else .no
    | some false => handT T x l cs r
    | none => .no
def sTryT (T : Te) (b : XS) (cl : List ClzT) : XS := fun l cs => match b l cs with
  | .go (.ex x l') cs' => handT T x l' cs' cl
  | r => r
def tagsV (Z : Sx) : List Tag → List Value → Prop
  | [], [] => True
  | t :: ts, c :: cs => tagV Z t = some c ∧ tagsV Z ts cs
  | _, _ => False
theorem TeOk.ms_ok {Z : Sx} {T : Te} (t : TeOk Z T) {x : Str} {Cl : Addr} (hm : Z.mg x = some (.ref Cl)) : ∀ {ts : List Tag} {cs : List Value} {b : Bool}, tagsV Z ts cs → T.ms x ts = some b → PySem.W.exmAny Z.K (.ref Cl) cs = some b
  | [], [], b, _, h => by cases h; rfl
  | y :: ts, c :: cs, b, ⟨h1, h2⟩, h => by
    have h : (match T.m x y, T.ms x ts with | some b, some d => some (b || d) | _, _ => none) = some b := h
    cases q1 : T.m x y with
    | none => rw [q1] at h; cases h
    | some b1 =>
      cases q2 : T.ms x ts with
      | none => rw [q1, q2] at h; cases h
      | some b2 =>
        rw [q1, q2] at h
        cases h
        obtain ⟨Cl', u, e1, e2, e3⟩ := t.m_ok q1
        rw [hm] at e1
        cases e1
        rw [h1] at e2
        cases e2
        have r := TeOk.ms_ok t hm h2 q2
        show (match PySem.W.exmOne Z.K (.ref Cl) c, PySem.W.exmAny Z.K (.ref Cl) cs with | some b, some d => some (b || d) | _, _ => none) = _
        rw [e3, r]
  | [], _ :: _, _, h, _ => h.elim
  | _ :: _, [], _, h, _ => h.elim
inductive JHT (X : Cx) (z : ZT) : List ExceptHandler → List ClzT → Prop
  | nil : JHT X z [] []
  | cons {te : Expr} {n : Str} {ts : List Tag} {cs : List Value} {i : Nat} {su : XS} {b₀ : Stmt} {suite : List Stmt} {pos' : Pos} {hds : List ExceptHandler} {l : List ClzT} (ht : tagsV (sx X) ts cs) (hc : E.TstOk X te (fun cls => PySem.W.exmAny X.K cls cs)) (hi : X.N[i]? = some n) (hln : X.env.kindOf n = some .local)
      (hsu : ∀ (a : Addr) (oe : Obj) (cls : Value) (d : Option Addr) (pn : List (Addr × Obj)), L2N.Zn cls d oe → (∃ vs, oe.data = .fields vs) → JSs (X.suite a ((a, oe) :: pn)) { z with e := some (a, cls, d) } (b₀ :: suite) su) (r : JHT X z hds l) :
      JHT X z (.ExceptHandler (some te) (some n) (b₀ :: suite) pos' :: hds) ((ts, i, su) :: l)
/-- a clause of one name -/
theorem tst_one {X : Cx} {x : Str} {c : Value} {np : Pos} (hc : Names X x c) : E.TstOk X (.Name x np) (fun cls => PySem.W.exmAny X.K cls [c]) := fun a pn s σ H cls b Q Er E2 I LT e q => by
  obtain ⟨b1, d1, x1, y1, z1⟩ := PySem.W.exmAny_cons e
  have : some false = some d1 := y1
  cases this
  rw [Bool.or_false] at z1
  subst z1
  exact E.tst_name hc a pn s σ H cls b Q Er E2 I LT x1 q
section
variable {X : Cx} {z : ZT} {body : List Stmt} {h₀ : ExceptHandler} {hds : List ExceptHandler} {cl : List ClzT} {pos : Pos} {b : XS} {T : Te}
def clsOf2 (Z : Sx) (z : ZT) (B : Wd) (K : PySem.W.Frag) : List ClzT → List (List Value) → List E.ClT
  | (t, i, su) :: r, c :: cs => ((fun cls => PySem.W.exmAny K cls c), i, fun a cls d => tS Z { z with e := some (a, cls, d) } B su fun _ _ _ => False) :: clsOf2 Z z B K r cs
  | _, _ => []
inductive JHT' (X : Cx) (z : ZT) : List ExceptHandler → List ClzT → List (List Value) → Prop
  | nil : JHT' X z [] [] []
  | cons {te : Expr} {n : Str} {ts : List Tag} {c : List Value} {i : Nat} {su : XS} {b₀ : Stmt} {suite : List Stmt} {pos' : Pos} {hds : List ExceptHandler} {l : List ClzT} {cs : List (List Value)} (ht : tagsV (sx X) ts c) (hc : E.TstOk X te (fun cls => PySem.W.exmAny X.K cls c)) (hi : X.N[i]? = some n) (hln : X.env.kindOf n = some .local)
      (hsu : ∀ (a : Addr) (oe : Obj) (cls : Value) (d : Option Addr) (pn : List (Addr × Obj)), L2N.Zn cls d oe → (∃ vs, oe.data = .fields vs) → JSs (X.suite a ((a, oe) :: pn)) { z with e := some (a, cls, d) } (b₀ :: suite) su) (r : JHT' X z hds l cs) :
      JHT' X z (.ExceptHandler (some te) (some n) (b₀ :: suite) pos' :: hds) ((ts, i, su) :: l) (c :: cs)
theorem JHT.vals (h : JHT X z hds cl) : ∃ cs, JHT' X z hds cl cs := by
  induction h with
  | nil => exact ⟨[], .nil⟩
  | cons ht hc hi hln hsu r ih =>
    obtain ⟨cs, q⟩ := ih
    exact ⟨_ :: cs, .cons ht hc hi hln hsu q⟩
theorem JHT'.toH (B : Wd) {cs : List (List Value)} (h : JHT' X z hds cl cs) : E.HdsT X hds (clsOf2 (sx X) z B X.K cl cs) := by
  induction h with
  | nil => exact .nil
  | cons ht hc hi hln hsu r ih => exact .cons hc hi hln (fun a oe cls d pn z1 z2 => (hsu a oe cls d pn z1 z2).run B _ takes_no) ih
/-- the rest of the clauses serve an exception -/
theorem handT_ok (t : TeOk (sx X) T) (hz : z.e = none) {B W W1 : Wd} {Eo : Exn → Loc → Cells → Prop} {D : Ends} {σ : L2.St} {H : Hp} {cls : Value} {d : Option Addr} {x : Exn} {l : Loc} {cs1 : Cells} (leW : Le W W1) (s1 : S (sx X) W1 cs1 H) (lr1 : LR (sx X) z B W1 l σ) (rx : RX (sx X) W1 cls d x) :
    ∀ {hds : List ExceptHandler} {cl : List ClzT} {cs : List (List Value)}, JHT' X z hds cl cs → wpS (handT T x l cs1 cl) (post (sx X) z B W Eo D) → E.wManyT (wx (sx X) z B Eo) D (clsOf2 (sx X) z B X.K cl cs) cls d σ H := by
  intro hds cl cs h
  induction h with
  | nil => exact fun w => ⟨W1, cs1, l, x, s1, lr1, rx, w⟩
  | @cons te n tg c i su b₀ suite pos' hds l' cs ht hc hi hln hsu r ih =>
    intro w
    have w' : wpS (match T.ms x.c tg with
      | some true => if i < l.length then endX i (su (l.set i (.exn x)) cs1) else .no
      | some false => handT T x l cs1 l'
      | none => .no) (post (sx X) z B W Eo D) := w
    cases q : T.ms x.c tg with
    | none => rw [q] at w'; exact w'.elim
    | some bb =>
      rw [q] at w'
      obtain ⟨Cl, dx, fs, e1, e2, e3, e4, e5⟩ := id rx
      have m3 := t.ms_ok e1 ht q
      subst e2
      refine ⟨bb, m3, fun hb => ?_, fun hb => ?_⟩
      · subst hb
        intro a ha
        dsimp only at w'
        by_cases hil : i < l.length
        · rw [if_pos hil] at w'
          refine ⟨W1, cs1, l.set i (.exn x), s1, lr1.caught hz rx, ?_⟩
          cases qs : su (l.set i (.exn x)) cs1 with
          | no => rw [qs] at w'; exact w'.elim
          | go fl cs2 =>
            rw [qs] at w'
            have back : ∀ {l2 : Loc} {W2 : Wd} {σ2 : L2.St}, (l2.set i .emp).any isExn = false → LR (sx X) { z with e := some (a, .ref Cl, d) } B W2 l2 σ2 → LR (sx X) z B W2 (l2.set i .emp) (σ2.set i none) := fun {l2 W2 σ2} hx lr2 => LR.noX (z := z) lr2.emp1 rfl hx
            cases fl with
            | nx l2 =>
              have w2 : wpS (if (l2.set i .emp).any isExn = true then SO.no else .go (.nx (l2.set i .emp)) cs2) (post (sx X) z B W Eo D) := w'
              split at w2
              · exact w2.elim
              · rename_i hx
                exact fun W2 σ2 H2 le2 s2 lr2 => w2 W2 _ H2 (leW.trans le2) s2 (back (by simpa using hx) lr2)
            | bk l2 =>
              have w2 : wpS (if (l2.set i .emp).any isExn = true then SO.no else .go (.bk (l2.set i .emp)) cs2) (post (sx X) z B W Eo D) := w'
              split at w2
              · exact w2.elim
              · rename_i hx
                exact fun W2 σ2 H2 le2 s2 lr2 => w2 W2 _ H2 (leW.trans le2) s2 (back (by simpa using hx) lr2)
            | ct l2 =>
              have w2 : wpS (if (l2.set i .emp).any isExn = true then SO.no else .go (.ct (l2.set i .emp)) cs2) (post (sx X) z B W Eo D) := w'
              split at w2
              · exact w2.elim
              · rename_i hx
                exact fun W2 σ2 H2 le2 s2 lr2 => w2 W2 _ H2 (leW.trans le2) s2 (back (by simpa using hx) lr2)
            | ret d2 => exact fun W2 v2 H2 le2 s2 o2 r2 => w' W2 v2 H2 (leW.trans le2) s2 o2 r2
            | ex x2 l2 => exact w'.elim
        · rw [if_neg hil] at w'
          exact w'.elim
      · subst hb
        exact ih w'
theorem js_tryT (t : TeOk (sx X) T) (hz : z.e = none) (hs : X.stack = X.env :: X.outer) (hf : X.env.frame = some X.env.locals) (hN : X.N.Nodup)
    (hb : ∀ (pn : List (Addr × Obj)) (xe : Value → Shared → Prop), PassesOwn (model X.prog X.w) X.A X.env xe → JSs (X.tr pn xe) z body b) (hh : JHT X z (h₀ :: hds) cl) (hn : z.n = false := by rfl) : JS X z (.Try body (h₀ :: hds) [] [] pos) (sTryT T b cl) := by
  obtain ⟨cv, hv⟩ := hh.vals
  refine ⟨fun B Eo tk => ?_⟩
  have base := fun (B' : Wd) (hB : B'.O = B.O) => E.ps_try_manyT (pos := pos) (tb := fun Wx => fun D σ H => ∃ Ei, (∀ cls d σ H, wx (sx X) z B' Ei cls d σ H → Wx cls d σ H) ∧ tS (sx X) z B' b Ei D σ H) hs hf hN tk.nn
    (fun Wx pn xe tk' po => ⟨fun pins s σ H D I ⟨Ei, himp, h⟩ => ((hb pn xe po).run B' Ei (Tkz.of hn (tk'.imp himp))).run pins s σ H D I h⟩) (hv.toH B)
  refine ⟨fun pins s σ H D I h => ?_⟩
  obtain ⟨W, cs, l, ss, lr, w⟩ := h
  refine (base { W with O := B.O } rfl).run pins s σ H D I ?_
  refine ⟨fun x l' cs' => wpS (handT T x l' cs' cl) (post (sx X) z B W Eo D), fun cls d σ1 H1 ⟨W1, cs1, l1, x1, s1, lr1, rx1, e1⟩ => ?_, W, cs, l, ss, lr.rebase ⟨Ex.refl _, fun _ _ h => h⟩ rfl, ?_⟩
  · have leW : Le W W1 := ⟨lr1.base.1.g, lr1.base.1.i⟩
    exact handT_ok t hz leW s1 (lr1.rebase (lr.base.1.trans leW) rfl) rx1 hv e1
  · unfold sTryT at w
    cases q : b l cs with
    | no => rw [q] at w; exact w.elim
    | go fl cs' =>
      rw [q] at w
      have up : ∀ {W2 : Wd} {l2 : Loc} {σ2 : L2.St}, Le W W2 → LR (sx X) z { W with O := B.O } W2 l2 σ2 → LR (sx X) z B W2 l2 σ2 := fun {W2 l2 σ2} le lr2 => lr2.rebase (lr.base.1.trans le) rfl
      cases fl with
      | nx l2 => exact fun W2 σ2 H2 le2 s2 lr2 => w W2 σ2 H2 le2 s2 (up le2 lr2)
      | bk l2 => exact fun W2 σ2 H2 le2 s2 lr2 => w W2 σ2 H2 le2 s2 (up le2 lr2)
      | ct l2 => exact fun W2 σ2 H2 le2 s2 lr2 => w W2 σ2 H2 le2 s2 (up le2 lr2)
      | ret d2 => exact fun W2 v2 H2 le2 s2 o2 r2 => w W2 v2 H2 le2 s2 o2 r2
      | ex x2 l2 => exact w
end
/-- e.f, e the suite's exception, of any class of the table -/
def xXfA (T : Te) (i : Nat) (f : Str) : XE := fun l => match l[i]? with
  | some (.exn x) => if T.fld x.c f = true then rd fun _ => x.fs.lookup f else no
  | _ => no
theorem je_xfA {X : Cx} {z : ZT} {a : Addr} {oe : Obj} {cls : Value} {d : Option Addr} {pn : List (Addr × Obj)} {e : Expr} {i : Nat} {f : Str} {pos : Pos} {T : Te} (t : TeOk (sx X) T) (hz : L2N.Zn cls d oe) (hf : ∃ vs, oe.data = .fields vs) (hv : PE (X.suite a ((a, oe) :: pn)) e (tVar i)) (hb : attributeBase e f X.env (eval e X.env) = eval e X.env := by rfl) :
    JE (X.suite a ((a, oe) :: pn)) { z with e := some (a, cls, d) } (.Attribute e f pos) (xXfA T i f) := ⟨fun B Eo tk => ⟨fun pins s σ H Q I h => by
  obtain ⟨W, cs, l, ss, lr, w⟩ := h
  unfold xXfA at w
  split at w
  · rename_i x hl
    split at w
    · rename_i hcc
      obtain ⟨r, hr, k⟩ := wp_rd.mp w
      obtain ⟨a', cls', d', hz', hs, Cl, dx, fs, m, e2, e3, e4, e5⟩ := lr.sl i _ hl
      cases hz'
      subst e2 e3
      obtain ⟨k1, k2⟩ := t.fld_ok hcc m
      obtain ⟨v, hv2, rv⟩ := e5.lookup f hr
      exact (pe_xf k1 k2 hz.zc hf hv hb).run pins s σ H Q I ⟨_, hs, rfl, rfl, dx, fs, v, rfl, ss.g _ _ e4, hv2, k W v H (Le.refl _) rfl ss rv⟩
    · exact w.elim
  · exact w.elim⟩⟩
end F

/-! sets of texts that can be walked: sorted(set(xs)) -/
namespace SW
open PySem PySem.Spec PyProof.Rows L2
section
variable {P : Program} {w : World} {K : Type} [DecidableEq K]
/-- a set whose members are told by S, with its entries and its table -/
structure At (knd : PySem.KeyKind P w K) (h : Heap) (a : Addr) (S : K → Bool) (n : Nat) (o : Obj) (es : Array (Int × Value)) (ep : Nat) (t : SetTable) : Prop where
  ho : h.get? a = some o
  hx : o.ExactSet
  hd : o.data = .set es ep t
  el : ElemsOf knd es.toList
  mem : ∀ k, S k = true ↔ ∃ e ∈ es.toList, knd.is k e.2 = true
  nd : es.toList.Pairwise fun e e' => ∀ k, knd.is k e.2 = true → knd.is k e'.2 = true → False
  sz : es.size < scanBound
  fit : t.fits es.size = true
  num : es.size = n
  ris : Ris t.place.toList
  led : w.params.followText "set-order" = true ∨ t.led = true
def Sw (knd : PySem.KeyKind P w K) (h : Heap) (a : Addr) (S : K → Bool) (n : Nat) : Prop := ∃ o es ep t, At knd h a S n o es ep t
variable {knd : PySem.KeyKind P w K} {A : Around} {Er : Value → Shared → Prop} {s : Shared} {a : Addr} {S : K → Bool} {n : Nat}
theorem Sw.keep {h h' : Heap} (R : Sw knd h a S n) (k : ∀ o, h.get? a = some o → h'.get? a = some o) : Sw knd h' a S n := by
  obtain ⟨o, es, ep, t, R⟩ := R
  exact ⟨o, es, ep, t, k o R.ho, R.hx, R.hd, R.el, R.mem, R.nd, R.sz, R.fit, R.num, R.ris, R.led⟩
theorem sym_nd {e e' : Int × Value} (h : ∀ k, knd.is k e.2 = true → knd.is k e'.2 = true → False) : ∀ k, knd.is k e'.2 = true → knd.is k e.2 = true → False := fun k h1 h2 => h k h2 h1
theorem put_at {h : Heap} {o : Obj} {es es' : Array (Int × Value)} {ep : Nat} {t t' : SetTable} (ho : h.get? a = some o) (hd : o.data = .set es ep t) : (h.update a (Obj.putSet es' t')).get? a = some { o with data := .set es' (ep + 1) t' } := store_at ho hd
/-- what is stored behind an add -/
theorem add_end {g : Bool → Sem Unit} (hg : ∀ (b : Bool) (s₁ : Shared) (Q' : Unit → Shared → Prop), Q' () s₁ → wpAny (model P w) A (g b) Q' Er s₁) {o : Obj} {es es1 : Array (Int × Value)} {ep : Nat} {t t2 : SetTable} {S' : K → Bool} {dm : Bool} {R : Option Bool → Shared → Prop}
    (ho : s.heap.get? a = some o) (hx : o.ExactSet) (hd : o.data = .set es ep t) (el : ElemsOf knd es1.toList) (mem : ∀ k, S' k = true ↔ ∃ e ∈ es1.toList, knd.is k e.2 = true) (nd : es1.toList.Pairwise fun e e' => ∀ k, knd.is k e.2 = true → knd.is k e'.2 = true → False)
    (sz : es1.size < scanBound) (fit : t2.fits es1.size = true) (ris : Ris t2.place.toList) (led : w.params.followText "set-order" = true ∨ t2.led = true) (hR : ∀ h', Heap.SameBut a s.heap h' → Sw knd h' a S' es1.size → R (some true) { s with heap := h' }) :
    wpAny (model P w) A (do
        storeSet a es1 t2
        if (!dm && t2.tooFull) = true then do
            g (relayAll t2 es1 (SetTable.grown es1.size)).2.2
            storeSet a (relayAll t2 es1 (SetTable.grown es1.size)).1 (relayAll t2 es1 (SetTable.grown es1.size)).2.1
            pure (some true)
          else pure (some true)) R Er s := by
  refine wpAny_bind (wpAny_storeSet_of ho hd ?_ (fits_of_scanBound sz))
  have ho1 := put_at (es' := es1) (t' := t2) ho hd
  have b1 := Heap.SameBut.update s.heap a (Obj.putSet es1 t2)
  split
  · have pm := relayAll_perm t2 es1 (SetTable.grown es1.size)
    have f3 := relayAll_fits t2 es1 (SetTable.grown es1.size)
    have r3 := relayAll_ris t2 es1 (SetTable.grown es1.size)
    have l3 := relayAll_led t2 es1 (SetTable.grown es1.size)
    generalize relayAll t2 es1 (SetTable.grown es1.size) = Z at pm f3 r3 l3 ⊢
    obtain ⟨es2, t3, gv⟩ := Z
    dsimp only at pm f3 r3 l3 ⊢
    have ez : es2.size = es1.size := by rw [← Array.length_toList, pm.length_eq, Array.length_toList]
    have z2 : es2.size < scanBound := by rw [ez]; exact sz
    refine wpAny_bind (hg _ _ _ (wpAny_bind (wpAny_storeSet_of ho1 rfl ?_ (fits_of_scanBound z2))))
    have ho2 := put_at (es' := es2) (t' := t3) ho1 rfl
    refine wpAny_pure (hR _ (b1.trans (Heap.SameBut.update _ a _)) ⟨_, es2, _, t3, ho2, hx, rfl, el.perm pm, fun k => (mem k).trans ⟨fun ⟨e, he, q⟩ => ⟨e, pm.mem_iff.mpr he, q⟩, fun ⟨e, he, q⟩ => ⟨e, pm.mem_iff.mp he, q⟩⟩, ?_, z2, f3, ez, r3, led.imp id fun z => by rw [l3]; exact z⟩)
    exact (pm.pairwise_iff fun h => sym_nd h).mpr nd
  · exact wpAny_pure (hR _ b1 ⟨_, es1, _, t2, ho1, hx, rfl, el, mem, nd, sz, fit, rfl, ris, led⟩)
theorem add_hashed {k : K} {x : Value} {Q : Bool → Shared → Prop} (hk : knd.is k x = true) (hsc : x.scannable = true) (R : Sw knd s.heap a S n) (room : n + 1 < scanBound)
    (hQ : ∀ h', Heap.SameBut a s.heap h' → Sw knd h' a (fun j => S j || decide (j = k)) (if S k = true then n else n + 1) → Q (!S k) { s with heap := h' }) : wpAny (model P w) A (setAddHashed a x (knd.hash k)) Q Er s := by
  obtain ⟨o, es, ep, t, R⟩ := R
  unfold setAddHashed setAddHashedIn
  refine wpAny_holding (wpAny_bind (wpAny_setState_of R.ho R.hd R.fit ?_))
  dsimp only
  rw [byScan_of hsc R.sz R.el]
  simp only [↓reduceIte]
  unfold setAddByScan
  refine wpAny_bind (wpAny_bind (wpAny_rule (wpAny_bind (wpAny_setScan_of hk R.ho R.hd R.fit R.el ?_))))
  cases hf : List.findIdx? (fun e => knd.is k e.2) es.toList with
  | some j =>
    dsimp only
    obtain ⟨hj, pj, _⟩ := List.findIdx?_eq_some_iff_getElem.mp hf
    have hS : S k = true := (R.mem k).mpr ⟨es.toList[j], List.getElem_mem hj, pj⟩
    refine wpAny_pure (wpAny_pure ?_)
    have q := hQ s.heap (Heap.SameBut.refl a s.heap) ⟨o, es, ep, t, R.ho, R.hx, R.hd, R.el, fun i => by
      rw [Bool.or_eq_true, decide_eq_true_eq, ← R.mem i]
      exact ⟨fun z => z.elim id (fun e => e ▸ hS), .inl⟩, R.nd, R.sz, R.fit, by rw [if_pos hS]; exact R.num, R.ris, R.led⟩
    rw [hS] at q
    exact q
  | none =>
    dsimp only
    have no : ∀ e ∈ es.toList, knd.is k e.2 = false := fun e he => by simpa using List.findIdx?_eq_none_iff.mp hf e he
    have hS : S k = false := by
      cases q : S k with
      | false => rfl
      | true =>
        obtain ⟨e, he, z⟩ := (R.mem k).mp q
        rw [no e he] at z
        cases z
    have gw : ∀ (b : Bool) {s₁ : Shared} {Q' : Unit → Shared → Prop}, Q' () s₁ → wpAny (model P w) A (match b with | true => rule "set.scan.the-table-gave-way" | false => pure ()) Q' Er s₁ := fun b s₁ Q' z => by cases b <;> first | exact wpAny_pure z | exact wpAny_rule z
    have pm := layNew_perm t es (knd.hash k) x
    have f1 := layNew_fits t es (knd.hash k) x
    have r1 := layNew_ris t es (knd.hash k) x R.ris
    have l1 := layNew_led t es (knd.hash k) x
    generalize layNew t es (knd.hash k) x = Z at pm f1 r1 l1 ⊢
    obtain ⟨es1, t1, dm, gv⟩ := Z
    dsimp only at pm f1 r1 l1 ⊢
    rw [Array.toList_push] at pm
    have el1 : ElemsOf knd es1.toList := (R.el.push hk hsc).perm pm
    have mem1 : ∀ j, (S j || decide (j = k)) = true ↔ ∃ e ∈ es1.toList, knd.is j e.2 = true := mem_push_iff hk R.mem pm
    have nd1 : es1.toList.Pairwise fun e e' => ∀ j, knd.is j e.2 = true → knd.is j e'.2 = true → False := by
      refine (pm.pairwise_iff fun h => sym_nd h).mpr ?_
      rw [List.pairwise_append]
      refine ⟨R.nd, List.pairwise_singleton _ _, fun e he e' he' j h1 h2 => ?_⟩
      rw [List.mem_singleton] at he'
      subst he'
      have : j = k := knd.inj x j k h2 hk
      subst this
      rw [no e he] at h1
      cases h1
    have z1 : es1.size = n + 1 := by rw [← Array.length_toList, pm.length_eq, List.length_append, Array.length_toList, R.num]; rfl
    have led1 : w.params.followText "set-order" = true ∨ t1.led = true := R.led.imp id fun z => by rw [l1]; exact z
    have fin : ∀ h', Heap.SameBut a s.heap h' → Sw knd h' a (fun j => S j || decide (j = k)) es1.size → Q true { s with heap := h' } := fun h' sb r => by
      have q := hQ h' sb
      rw [hS] at q
      rw [z1] at r
      exact q r
    refine wpAny_bind (gw _ ?_)
    split
    · refine wpAny_bind ?_
      rw [hashByValue_scannable 8 hsc]
      refine wpAny_pure (add_end ?_ R.ho R.hx R.hd el1 mem1 nd1 (by rw [z1]; exact room) ?_ ?_ ?_ ?_)
      · intro b s₁ Q' z; cases b <;> first | exact wpAny_pure z | exact wpAny_rule z
      · first | (split <;> first | exact f1 | exact SetTable.fits_plain_off f1) | exact f1
      · first | (split <;> exact r1) | exact r1
      · first | (split <;> exact led1) | exact led1
      · intro h' sb r; dsimp only; exact wpAny_pure (fin h' sb r)
    · refine wpAny_bind (wpAny_pure ?_)
      simp only [↓reduceIte]
      refine add_end ?_ R.ho R.hx R.hd el1 mem1 nd1 (by rw [z1]; exact room) f1 r1 led1 ?_
      · intro b s₁ Q' z; cases b <;> first | exact wpAny_pure z | exact wpAny_rule z
      · intro h' sb r; dsimp only; exact wpAny_pure (fin h' sb r)
end
end SW

/-! set(xs), xs a list or a tuple -/
namespace SW
open PySem PySem.Spec PyProof.Rows L2
section
variable {P : Program} {w : World} {K : Type} [DecidableEq K] {knd : PySem.KeyKind P w K} {A : Around}
/-- the members are the first i values -/
def Has (knd : PySem.KeyKind P w K) (h : Heap) (a : Addr) (val : Nat → K) (i : Nat) : Prop := ∃ S m, Sw knd h a S m ∧ m ≤ i ∧ ∀ j, S j = true ↔ ∃ q, q < i ∧ val q = j
theorem upd_loop {R : Result → Shared → Prop} {I : Addr} {fp wr : List Addr} {G : Array GenState → Array GenState → Prop} {n : Nat} {Pv : Nat → Value → Prop} {St : Nat → Shared → Prop} (W : WalksS P w A.in1 I fp wr G n Pv St) (sa : Addr) (hf : sa ∉ fp) (val : Nat → K)
    (hv : ∀ i v, Pv i v → knd.is (val i) v = true ∧ v.scannable = true) (hb : n + 1 < scanBound) :
    ∀ (k i : Nat) (s : Shared), n - i = k → i ≤ n → St i s → Has knd s.heap sa val i → (∀ s', Moved (sa :: wr) G s s' → Has knd s'.heap sa val n → R (.ok (.ret .none)) s') →
      codeAny (model P w) A (.builtin "set.update.loop" ⟨[.ref sa, .ref I], []⟩) R s := by
  have hw : sa ∉ wr := fun z => hf (W.sub _ z)
  have sub : ∀ b ∈ wr, b ∈ sa :: wr := fun b z => List.mem_cons_of_mem _ z
  intro k
  induction k with
  | zero =>
    intro i s hk hi st hS hR
    obtain rfl : i = n := by omega
    refine codeAny_builtin F.entry_set_update_loop ?_
    rw [Around.under_plainId F.plain_set_update_loop _]
    show wpAny _ A.in1 (pyNext (.ref I) >>= _) _ _ s
    refine wpAny_bind (W.done s _ _ st fun s' hm => ?_)
    show wpAny _ A.in1 (ret Value.none) _ _ s'
    obtain ⟨S, m, hS, lm, hj⟩ := hS
    exact wpAny_pure (hR s' (hm.mono sub) ⟨S, m, hS.keep fun o e => hm.heap sa o hw e, lm, hj⟩)
  | succ k ih =>
    intro i s hk hi st hS hR
    have lt : i < n := by omega
    refine codeAny_builtin F.entry_set_update_loop ?_
    rw [Around.under_plainId F.plain_set_update_loop _]
    show wpAny _ A.in1 (pyNext (.ref I) >>= _) _ _ s
    refine wpAny_bind (W.item i s _ _ lt st fun v s' hP st' hm => ?_)
    obtain ⟨hkv, hsc⟩ := hv i v hP
    obtain ⟨S, m, hS, lm, hj⟩ := hS
    have hS' : Sw knd s'.heap sa S m := hS.keep fun o e => hm.heap sa o hw e
    show wpAny _ A.in1 (holding [v] (setAdd sa v) >>= _) _ _ s'
    refine wpAny_bind (wpAny_holding ?_)
    unfold setAdd
    refine wpAny_holding (wpAny_bind (knd.pyHash (k := val i) hkv ?_))
    refine add_hashed (knd := knd) (s := { s' with toks := s'.toks + 1 }) hkv hsc hS' (by omega) fun h' sb S2 => ?_
    have hi1 : Has knd h' sa val (i + 1) := by
      refine ⟨_, _, S2, ?_, fun j => ?_⟩
      · split <;> omega
      · rw [Bool.or_eq_true, hj j, decide_eq_true_eq]
        constructor
        · rintro (⟨q, h1, h2⟩ | rfl)
          · exact ⟨q, by omega, h2⟩
          · exact ⟨i, by omega, rfl⟩
        · rintro ⟨q, h1, h2⟩
          by_cases z : q = i
          · subst z
            exact .inr h2.symm
          · exact .inl ⟨q, by omega, h2⟩
    refine wpAny_pure ⟨plainId_quiet F.plain_set_update_loop _, ih (i + 1) _ (by omega) lt (W.frame _ s' _ _ st' (Nat.le_succ _) fun b hb2 o e => ?_) hi1 fun s'' hm'' hS'' => ?_⟩
    · rw [sb.2 b (fun z : b = sa => hf (by rw [← z]; exact hb2))]; exact e
    · refine hR s'' (Moved.trans W.gtrans ((hm.mono sub).then_heap (Nat.le_succ _) fun b o hb2 e => ?_) hm'') hS''
      rw [sb.2 b (fun z : b = sa => hb2 (by rw [z]; exact List.mem_cons_self))]; exact e
end
end SW

/-! set(xs), xs a list or a tuple: the call -/
namespace SW
open PySem PySem.Spec PyProof.Rows L2
section
variable {P : Program} {w : World} {K : Type} [DecidableEq K] {knd : PySem.KeyKind P w K} {A : Around} {Er : Value → Shared → Prop} {s : Shared}
abbrev fresh (w : World) : Obj := { cls := .type "set", dict := none, data := .set #[] 0 (.fresh 0 0 (!w.params.followText "set-order")) }
theorem sw_fresh {h : Heap} {a : Addr} (e : h.get? a = some (fresh w)) : Sw knd h a (fun _ => false) 0 := ⟨_, #[], 0, _, e, ⟨rfl, rfl, rfl⟩, rfl, fun e he => by simp at he, fun k => by simp, by simp, by decide, by rfl, rfl, List.Pairwise.nil, by
  show _ ∨ (!w.params.followText "set-order") = true
  cases w.params.followText "set-order"
  · exact .inr rfl
  · exact .inl rfl⟩
theorem new_led (a : Value) {Q₁ : Value → Shared → Prop} (h : Q₁ (.ref s.heap.objs.size) { s with heap := s.heap.push (fresh w) }) : codeAny (model P w) A (.call (.builtin "set.__new__") ⟨[.type "set", a], []⟩) (wants Q₁ Er) s := by
  refine codeAny_of_tree ?_
  show wpAny _ A.in1 (do checkBuiltinCall "set.__new__" ⟨[.type "set", a], []⟩; again (.builtin "set.__new__" ⟨[.type "set", a], []⟩)) _ _ s
  refine wpAny_bind (wpAny_of_eq (F.newCall_set_1 a) (wpAny_pure ⟨plainId_quiet F.plain_set_new _, codeAny_builtin F.entry_set_new ?_⟩))
  rw [Around.under_plainId F.plain_set_new _]
  unfold Builtin.«set.__new__» Builtin.Frozenset.newClass
  have hsub := sub_set_self
  obtain ⟨hp, g, d, tk, os⟩ := s
  dsimp only
  wp_walk
  refine wpAny_askSetting (wpAny_pure ?_)
  dsimp only
  simp only [newObj]
  exact wpAny_bind (wpAny_alloc (wpAny_pure (wpAny_pure h)))

theorem sub_list_s : isSubtype (.type "list") (.type "set") = pure false := by rw [isSubtype_type]; kernel_rfl
theorem sub_list_f : isSubtype (.type "list") (.type "frozenset") = pure false := by rw [isSubtype_type]; kernel_rfl
/-- set(xs), xs a list -/
theorem set_list {l : Addr} {items : Array Value} {val : Nat → K} {Q : Value → Shared → Prop} (hh : A.handled = none) (hl : s.heap.IsList l items) (hv : ∀ i v, items[i]? = some v → knd.is (val i) v = true ∧ v.scannable = true) (hb : items.size + 1 < scanBound)
    (hQ : ∀ (h' : Heap) (tk : Nat), Has knd h' s.heap.objs.size val items.size → (∀ b o, b < s.heap.objs.size → s.heap.get? b = some o → h'.get? b = some o) → Q (.ref s.heap.objs.size) { s with heap := h', toks := tk }) : wpAny (model P w) A (call (.type "set") [.ref l]) Q Er s := by
  obtain ⟨c, tl, hmro⟩ := F.called_set.mro
  have hmade := F.called_set.made
  have hsub := F.called_set.sub
  refine wpAny_call (codeAny_of_tree ?_)
  show wpAny _ _ (callAny (.type "set") _) _ _ _
  refine wpAny_pure ⟨Code.quiet_builtin _ (by decide +kernel), codeAny_builtin F.entry_type_call ?_⟩
  rw [Around.under_plain (weight_type_call_type "set" [.ref l] []) rfl]
  have h1 := F.called_set.notType
  have h2 := F.called_set.canCreate
  have hct := F.typeCall_set_1 (.ref l)
  repeat (any_goals (first | assumption | wp_step))
  refine codeAny_mono (new_led (.ref l) (Er := Er) (Q₁ := fun ob s₁ => ob = .ref s.heap.objs.size ∧ s₁ = { s with heap := s.heap.push (fresh w) }) ⟨rfl, rfl⟩) fun r s₁ hr => ?_
  cases r with
  | error e => exact hr
  | ok fl =>
    cases fl with
    | ret ob =>
      obtain ⟨rfl, rfl⟩ := hr
      have hS : (s.heap.push (fresh w)).get? s.heap.objs.size = some (fresh w) := Heap.get?_push_size _ rfl
      have hT : Shared.TypeIs { s with heap := s.heap.push (fresh w) } (.ref s.heap.objs.size) "set" := ⟨_, hS, rfl⟩
      have hli := F.called_set.init.lookup
      have hbi := F.called_set.init.bind (.ref s.heap.objs.size)
      repeat (any_goals (first | assumption | wp_step))
      refine codeAny_mono (codeAny_call_builtin (R := wants (fun r s₂ => r = .none ∧ ∃ h' tk, s₂ = { s with heap := h', toks := tk } ∧ Has knd h' s.heap.objs.size val items.size ∧ (∀ b o, b < s.heap.objs.size → s.heap.get? b = some o → h'.get? b = some o)) Er) F.called_set.init.plain F.entry_set_init (check_set_init_1 hT ?_)) fun r₂ s₂ hr₂ => ?_
      · obtain ⟨ol, hol, hcl, nl, hdl⟩ := hl
        obtain ⟨oc, od, odt, osl⟩ := ol
        simp only at hcl hdl
        subst hcl; subst hdl
        have hol' : (s.heap.push (fresh w)).get? l = some { cls := .type "list", dict := od, data := .seq items nl, slots := osl } := Heap.get?_push_of_some _ hol
        have hs1 := sub_list_s
        have hs2 := sub_list_f
        have hne : (Value.type "list" == Value.type "dict") = false := by decide
        have hl1 : (s.heap.push (fresh w)).IsList l items := ⟨_, hol', rfl, nl, rfl⟩
        unfold Builtin.«set.__init__» noKeywords Builtin.Frozenset.updateFrom
        generalize hPI : pyIter = PI
        wp_walk
        subst hPI
        refine wpAny_pyIter_list hl1 (wpAny_bind (wpAny_runValue ?_))
        have hlS : l < s.heap.objs.size := Heap.lt_size hol
        have hh3 : A.in1.in1.in1.handled = none := by simp [hh]
        have hI : l ≠ (s.heap.push (fresh w)).objs.size := by rw [Heap.size_push]; exact Nat.ne_of_lt (Nat.lt_succ_of_lt hlS)
        have hf : s.heap.objs.size ∉ [(s.heap.push (fresh w)).objs.size, l] := by
          rw [Heap.size_push]
          simp only [List.mem_cons, List.not_mem_nil, or_false, not_or]
          exact ⟨Nat.ne_of_lt (Nat.lt_succ_self _), Nat.ne_of_gt hlS⟩
        refine upd_loop (knd := knd) ((Walks.list hh3 _ l hI items).toS) s.heap.objs.size hf val hv hb (items.size - 0) 0 _ (by omega) (Nat.zero_le _) ⟨⟨_, Heap.get?_push_size _ rfl, rfl, rfl⟩, (hl1.push _)⟩ ?s0 ?sR
        case s0 =>
          have hg : ((s.heap.push (fresh w)).push { cls := .type "list_iterator", data := .fields #[.ref l, .int 0 0] }).get? s.heap.objs.size = some (fresh w) := Heap.get?_push_of_some _ hS
          exact ⟨_, 0, sw_fresh hg, Nat.le_refl _, fun j => ⟨fun z => (nomatch z), fun ⟨q, z, _⟩ => absurd z (Nat.not_lt_zero _)⟩⟩
        case sR =>
          intro s' hm hS'
          obtain ⟨h', g', d', tk', os'⟩ := s'
          have eg : g' = s.gens := hm.gens
          have ed : d' = s.drawn := hm.drawn
          have eo : os' = s.os := hm.os
          subst eg; subst ed; subst eo
          show wpAny _ _ _ _ _ _
          refine wpAny_pure ?_
          show wpAny _ _ (ret Value.none) _ _ _
          refine wpAny_pure ⟨rfl, h', tk', rfl, hS', fun b o hb2 e => ?_⟩
          have n1 : b ≠ s.heap.objs.size := Nat.ne_of_lt hb2
          have n2 : b ≠ (s.heap.push (fresh w)).objs.size := by rw [Heap.size_push]; exact Nat.ne_of_lt (Nat.lt_succ_of_lt hb2)
          exact hm.heap b o (by simp only [List.mem_cons, List.not_mem_nil, or_false, not_or]; exact ⟨n1, n2⟩) (Heap.get?_push_of_some _ (Heap.get?_push_of_some _ e))
      · cases r₂ with
        | error e => exact hr₂
        | ok fl₂ =>
          cases fl₂ with
          | ret r =>
            obtain ⟨rfl, h', tk, rfl, hS', hk'⟩ := hr₂
            repeat (any_goals (first | assumption | wp_step))
            exact hQ _ _ hS' hk'
          | _ => exact hr₂.elim
    | _ => exact hr.elim

end
end SW

/-! sorted(set(xs)) of texts -/
namespace F
open PySem PySem.Spec PyProof.Rows L2 Evl
/-! the order of texts -/
def ltS (a b : Str) : Bool := ltCps a.cps.toList b.cps.toList
abbrev Asc (xs : List Str) : Prop := xs.Pairwise fun a b => ltS a b = true
end F

/-! str(o), bool(o) by own methods; bool of a list or tuple -/
namespace F
open PySem PySem.Spec L2 Evl PyProof.Rows
section
variable {prog : Program} {w : World} {A : Around} {E : Value → Shared → Prop} {s : Shared}
end
def asTx (d : D) : EM D := match d with
  | .str x => rt (.str x)
  | _ => no
def asBl (d : D) : EM D := match d with
  | .bl b => rt (.bl b)
  | _ => no
/-- m(d), d an instance with own m -/
def spDyn (t : EqT) (as : D → EM D) (d : D) : EM D := fun cs => match insOf cs d with
  | some (c, _) => match t.at_ c with
    | some Fe => bd (nox (Fe [d] [])) as cs
    | none => .no
  | none => .no
def xStrI (t : EqT) (fa : XE) : XE := fun l => bd (fa l) fun d => nox (spDyn t asTx d)
def xBoolI (t : EqT) (fa : XE) : XE := fun l => bd (fa l) fun d => nox (spDyn t asBl d)
section
variable {X : Cx} {k j : Nat} {t : EqT}
end
section
variable {X : Cx} {z : ZT} {e : Expr} {fa : XE} {k j : Nat} {t : EqT} {p pos : Pos}
/-- bool of a list or tuple -/
def dBoolQ (cs : Cells) (d : D) : Option D := (seqOf cs d).map fun xs => .bl (!xs.isEmpty)
end
end F

/-! f"..{e}.." of texts -/
namespace F
open PySem PySem.Spec L2 Evl PyProof.Rows
def dFmt (_ : Cells) (d : D) : Option D := match d with
  | .str y => some (.str y)
  | _ => none
/-- the texts one behind the other -/
def xJs : List XE → Str → XE
  | [], acc => fun _ => rt (.str acc)
  | f :: fs, acc => fun l => bd (f l) fun d => match d with
    | .str y => if (acc ++ y).length ≤ sizeLine then xJs fs (acc ++ y) l else no
    | _ => no
section
variable {X : Cx} {z : ZT}
end
/-! a + b of lists, as a cell -/
def catC (cs : Cells) (x y : D) : Option (List D) := match catL cs x y with
  | some (.lst zs) => some zs
  | _ => none
def xAddC (fa fb : XE) : XE := fun l => bd (fa l) fun x => bd (fb l) fun y => bd (rd fun cs => catC cs x y) fun zs => newC (.lst zs)
section
variable {X : Cx} {z : ZT} {a b : Expr} {fa fb : XE} {pos : Pos}
end
end F

/-! text.strip(signs), text.split(sep) -/
namespace F
open PySem PySem.Spec L2 Evl PyProof.Rows
/-- a method of a text with one argument -/
def xTm (g : Str → D → Option D) (fo fe : XE) : XE := fun l => bd (fo l) fun x => bd (asS x) fun a => bd (fe l) fun y => rd fun _ => g a y
section
variable {X : Cx} {z : ZT} {o e : Expr} {fo fe : XE} {apos pos : Pos}
end
end F

/-! def f(a, .., *v, k = ..): keyword-only parameters that lack are read ahead of the tuple -/
namespace F
open PySem PySem.Spec PyProof.Rows L2 Evl
def KwT {α : Type} (D : Addr) (rest : List Value) (c : Value → Sem α) : List (Str × Value) → Sem α → Prop
  | [], t => t = (newTuple rest >>= c)
  | q :: l, t => ∃ (β γ : Type) (k1 : Option Value → Sem β) (k2 : β → Sem γ) (k3 : γ → Sem α) (a : β), t = ((nsGet D q.1 >>= k1) >>= k2) >>= k3 ∧ k1 (some q.2) = pure a ∧ KwT D rest c l (k2 a >>= k3)
theorem KwT.run {α : Type} {K : PySem.W.Frag} {M : Model} {A : Around} {E : Value → Shared → Prop} {s : Shared} {D : Addr} {rest : List Value} {c : Value → Sem α} {Q : α → Shared → Prop} (X : K.In s.heap) : ∀ {l : List (Str × Value)} {t : Sem α}, (∀ q ∈ l, PySem.W.nsIn K D q.1 = some (some q.2)) → KwT D rest c l t → wpAny M A (newTuple rest >>= c) Q E s → wpAny M A t Q E s
  | [], t, _, e, h => by rw [show t = _ from e]; exact h
  | q :: l, t, hl, e, h => by
    obtain ⟨β, γ, k1, k2, k3, a, e1, e2, e3⟩ := e
    have l1 : PySem.W.Looks M s.heap (nsGet D q.1 >>= k1) a := (PySem.W.looks_nsIn X (hl q (List.mem_cons_self ..))).andThen (PySem.W.Looks.of_pure e2)
    rw [e1, bind_assoc]
    exact wpAny_bind (l1.here (KwT.run X (fun q hq => hl q (List.mem_cons_of_mem _ hq)) e3 h))
section
variable {P : Program} {w : World} {K : PySem.W.Frag} {mg : Str → Option Value} {base : Heap} {f : Addr} {name qual : Str} {params : Arguments} {body : List Stmt} {scope : Scope} {kws : List (Str × V)} {fd : FuncData} {ps kn ms : List Str} {pv : Str}
end
end F

/-! methods by the object's class, with arguments; own [..]; both may raise -/
namespace F
open PySem L2 Evl PyProof.Rows
structure MeOk (P : Program) (w : World) (K : PySem.W.Frag) (mg : Str → Option Value) (base : Heap) (k : Nat) (m : Str) (t : EqT) : Prop where
  at_ : ∀ q ∈ t, ∃ Cl g, mg q.1 = some (.ref Cl) ∧ Cls K Cl ∧ Meth K Cl m g ∧ FnG P w K mg base k g [] q.2
theorem MeOk.get {P : Program} {w : World} {K : PySem.W.Frag} {mg : Str → Option Value} {base : Heap} {k : Nat} {m : Str} {t : EqT} (o : MeOk P w K mg base k m t) {c : Str} {Fe : List D → List D → EM D} {Cl : Addr} (h : t.at_ c = some Fe) (hm : mg c = some (.ref Cl)) :
    ∃ g, Cls K Cl ∧ Meth K Cl m g ∧ FnG P w K mg base k g [] Fe := by
  unfold EqT.at_ at h
  cases q : t.find? fun q => decide (q.1 = c) with
  | none => rw [q] at h; cases h
  | some r =>
    rw [q] at h
    cases h
    have hr := List.find?_some q
    obtain ⟨Cl', g, h4, h5, h6, h7⟩ := o.at_ r (List.mem_of_find?_eq_some q)
    rw [of_decide_eq_true hr, hm] at h4
    cases h4
    exact ⟨g, h5, h6, h7⟩
/-- the def that o.m is -/
def mGet (t : EqT) (m : Str) (o : D) (cs : Cells) : Option (List D → List D → EM D) := match insOf cs o with
  | some (c, fs) => if (fs.lookup m).isNone = true then t.at_ c else none
  | none => none
def xMeth (t : EqT) (m : Str) (fo : XE) (fa : XA) : XE := fun l => bd (fo l) fun o => bd (rd fun cs => mGet t m o cs) fun Fe => bd (fa l) fun ds => Fe (o :: ds) []
section
variable {X : Cx} {z : ZT} {k j : Nat} {t : EqT} {m : Str} {e a : Expr} {es : List Expr} {fo : XE} {fa : XA} {apos pos : Pos} {pl : Sem Bool}
end
/-! ### own [..] -/
def ixDyn (t : EqT) (x y : D) : EM D := fun cs => match insOf cs x with
  | some (c, _) => match t.at_ c with
    | some Fe => Fe [x, y] [] cs
    | none => .no
  | none => .no
def xIxI (t : EqT) (fa fb : XE) : XE := fun l => bd (fa l) fun x => bd (fb l) fun y => ixDyn t x y
/-- no class that is a sequence, and the def is a function -/
structure IxOk (K : PySem.W.Frag) (mg : Str → Option Value) (t : EqT) : Prop where
  at_ : ∀ q ∈ t, ∃ Cl g, mg q.1 = some (.ref Cl) ∧ PySem.W.findIn K (.ref Cl) "__getitem__" = some (some (.ref g)) ∧ PySem.W.fnIn K g = true
theorem IxOk.get {K : PySem.W.Frag} {mg : Str → Option Value} {t : EqT} (o : IxOk K mg t) {c : Str} {Fe : List D → List D → EM D} {Cl g : Addr} (h : t.at_ c = some Fe) (hm : mg c = some (.ref Cl)) (hf : PySem.W.findIn K (.ref Cl) "__getitem__" = some (some (.ref g))) : PySem.W.fnIn K g = true := by
  unfold EqT.at_ at h
  cases q : t.find? fun q => decide (q.1 = c) with
  | none => rw [q] at h; cases h
  | some r =>
    have hr := List.find?_some q
    obtain ⟨Cl', g', h4, h5, h6⟩ := o.at_ r (List.mem_of_find?_eq_some q)
    rw [of_decide_eq_true hr, hm] at h4
    cases h4
    rw [hf] at h5
    cases h5
    exact h6
section
variable {X : Cx} {z : ZT} {k j : Nat} {t : EqT} {a b : Expr} {fa fb : XE} {pos : Pos}
end
/-! facts -/
end F

/-! dicts: of one's own, in a cell, or standing for good -/
namespace F
open PySem PySem.Spec L2 Evl PyProof.Rows
def dgK (kvs : List (Key × D)) (k : Key) : Option D := (kvs.find? fun kv => decide (kv.1 = k)).map (·.2)
def dpK (kvs : List (Key × D)) (k : Key) (v : D) : List (Key × D) :=
  if (kvs.any fun kv => decide (kv.1 = k)) = true then kvs.map (fun kv => if kv.1 = k then (kv.1, v) else kv) else kvs ++ [(k, v)]
def ddK (kvs : List (Key × D)) (k : Key) : List (Key × D) := kvs.filter fun kv => decide (kv.1 ≠ k)
section
variable {Z : Sx} {W W' : Wd}
theorem RepK.length : ∀ {vs : List (Key × V)} {ds : List (Key × D)}, RepK Z W vs ds → vs.length = ds.length
  | _, _, .nil => rfl
  | _, _, .cons _ t => congrArg (· + 1) (RepK.length t)
theorem RepK.get {k : Key} {d : D} : ∀ {vs : List (Key × V)} {ds : List (Key × D)}, RepK Z W vs ds → dgK ds k = some d → ∃ v, valV vs k = some v ∧ Rep Z W v d
  | _, _, .nil, e => by cases e
  | _, _, .cons (k := j) r t, e => by
    unfold dgK at e
    unfold valV
    rw [List.find?_cons] at e ⊢
    by_cases h : j = k
    · simp only [h, decide_true] at e ⊢
      cases e
      exact ⟨_, rfl, r⟩
    · simp only [h, decide_false] at e ⊢
      exact RepK.get (k := k) (d := d) t e
theorem RepK.none {k : Key} : ∀ {vs : List (Key × V)} {ds : List (Key × D)}, RepK Z W vs ds → dgK ds k = .none → valV vs k = .none
  | _, _, .nil, e => rfl
  | _, _, .cons (k := j) r t, e => by
    unfold dgK at e
    unfold valV
    rw [List.find?_cons] at e ⊢
    by_cases h : j = k
    · simp only [h, decide_true] at e
      cases e
    · simp only [h, decide_false] at e ⊢
      exact RepK.none (k := k) t e
theorem RepK.isSome {k : Key} {vs : List (Key × V)} {ds : List (Key × D)} (r : RepK Z W vs ds) : (valV vs k).isSome = (dgK ds k).isSome := by
  cases q : dgK ds k with
  | none => rw [r.none q]; rfl
  | some d => obtain ⟨v, hv, _⟩ := r.get q; rw [hv]; rfl
theorem RepK.any {k : Key} : ∀ {vs : List (Key × V)} {ds : List (Key × D)}, RepK Z W vs ds → (vs.any fun kv => decide (kv.1 = k)) = ds.any fun kv => decide (kv.1 = k)
  | _, _, .nil => rfl
  | _, _, .cons r t => by rw [List.any_cons, List.any_cons, RepK.any t]
theorem RepK.append : ∀ {vs us : List (Key × V)} {ds es : List (Key × D)}, RepK Z W vs ds → RepK Z W us es → RepK Z W (vs ++ us) (ds ++ es)
  | _, _, _, _, .nil, s => s
  | _, _, _, _, .cons r t, s => .cons r (RepK.append t s)
theorem RepK.repl {k : Key} {v : V} {d : D} (h : Rep Z W v d) : ∀ {vs : List (Key × V)} {ds : List (Key × D)}, RepK Z W vs ds → RepK Z W (vs.map fun kv => if kv.1 = k then (kv.1, v) else kv) (ds.map fun kv => if kv.1 = k then (kv.1, d) else kv)
  | _, _, .nil => .nil
  | _, _, .cons (k := j) r t => by
    rw [List.map_cons, List.map_cons]
    by_cases e : j = k
    · simp only [e, if_true]
      exact .cons h (RepK.repl h t)
    · simp only [e, if_false]
      exact .cons r (RepK.repl h t)
theorem RepK.put {k : Key} {v : V} {d : D} (h : Rep Z W v d) {vs : List (Key × V)} {ds : List (Key × D)} (r : RepK Z W vs ds) : RepK Z W (putK vs k v) (dpK ds k d) := by
  unfold putK dpK
  rw [r.any]
  split
  · exact r.repl h
  · exact r.append (.cons h .nil)
theorem RepK.drop {k : Key} : ∀ {vs : List (Key × V)} {ds : List (Key × D)}, RepK Z W vs ds → RepK Z W (dropK vs k) (ddK ds k)
  | _, _, .nil => .nil
  | _, _, .cons (k := j) r t => by
    unfold dropK ddK
    rw [List.filter_cons, List.filter_cons]
    by_cases e : j = k
    · simp only [e, ne_eq, not_true, decide_false, Bool.false_eq_true, if_false]
      exact RepK.drop t
    · simp only [e, ne_eq, not_false_iff, decide_true, if_true]
      exact .cons r (RepK.drop t)
theorem RepK.vals : ∀ {vs : List (Key × V)} {ds : List (Key × D)}, RepK Z W vs ds → RepA Z W (vs.map (·.2)) (ds.map (·.2))
  | _, _, .nil => .nil
  | _, _, .cons r t => .cons r (RepK.vals t)
theorem RepK.keys : ∀ {vs : List (Key × V)} {ds : List (Key × D)}, RepK Z W vs ds → vs.map (·.1) = ds.map (·.1)
  | _, _, .nil => rfl
  | _, _, .cons r t => by rw [List.map_cons, List.map_cons, RepK.keys t]
end
/-! ### a dict that is asked -/
inductive DO where
  | own (i : Nat) | val (d : D)
def dctD (cs : Cells) : D → Option (List (Key × D))
  | .dct kvs => some kvs
  | .cel n => match cs[n]? with
    | some (.dct kvs) => some kvs
    | _ => none
  | _ => none
def DO.kvs (l : Loc) (cs : Cells) : DO → Option (List (Key × D))
  | .own i => match l[i]? with
    | some (.own (.dct kvs)) => some kvs
    | _ => none
  | .val d => dctD cs d
abbrev XD := Loc → EM DO
def RepO (Z : Sx) (W : Wd) (σ : L2.St) (v : V) : DO → Prop
  | .own i => σ[i]? = some (some v)
  | .val d => Rep Z W v d
theorem RepO.mono {Z : Sx} {W W' : Wd} (e : Le W W') {σ : L2.St} {v : V} : ∀ {o : DO}, RepO Z W σ v o → RepO Z W' σ v o
  | .own _, h => h
  | .val _, h => Rep.mono e h
def dOwn (i : Nat) : XD := fun l => match l[i]? with
  | some (.own (.dct _)) => rt (.own i)
  | some (.val d) => rt (.val d)
  | _ => no
def dVal (f : XE) : XD := fun l => bd (f l) fun d => rt (.val d)
section
variable {X : Cx} {z : ZT} {e : Expr} {fe : XE} {i : Nat}
end
/-! ### words -/
def gDg (l : Loc) (o : DO) (k : D) (cs : Cells) : Option D := match keyOf k, o.kvs l cs with
  | some k, some kvs => dgK kvs k
  | _, _ => none
def xDg (fd : XD) (fk : XE) : XE := fun l => bd (fd l) fun o => bd (fk l) fun k => rd fun cs => gDg l o k cs
def gDin (neg : Bool) (l : Loc) (o : DO) (k : D) (cs : Cells) : Option D := match o.kvs l cs with
  | some kvs => match k with
    | .non => some (.bl neg)
    | k => match keyOf k with
      | some k => some (.bl ((dgK kvs k).isSome != neg))
      | none => none
  | none => none
def xDin (neg : Bool) (fk : XE) (fd : XD) : XE := fun l => bd (fk l) fun k => bd (fd l) fun o => rd fun cs => gDin neg l o k cs
def gDget (l : Loc) (o : DO) (k x : D) (cs : Cells) : Option D := match o.kvs l cs with
  | some kvs => match k with
    | .non => some x
    | k => match keyOf k with
      | some k => some ((dgK kvs k).getD x)
      | none => none
  | none => none
def xDget (fd : XD) (fk fx : XE) : XE := fun l => bd (fd l) fun o => bd (rd fun cs => o.kvs l cs) fun _ => bd (fk l) fun k => bd (fx l) fun x => rd fun cs => gDget l o k x cs
/-- what stands behind a change -/
def DO.put (o : DO) (l : Loc) (cs : Cells) (kvs : List (Key × D)) : Option (Loc × Cells) := match o with
  | .own i => match l[i]? with
    | some (.own (.dct _)) => some (l.set i (.own (.dct kvs)), cs)
    | _ => none
  | .val (.cel n) => match cs[n]? with
    | some (.dct _) => some (l, cs.set n (.dct kvs))
    | _ => none
  | _ => none
def chgD (l : Loc) (o : DO) (cs : Cells) (kvs : List (Key × D)) : SO := match o.put l cs kvs with
  | some (l', cs') => .go (.nx l') cs'
  | none => .no
def sDput (fd : XD) (fk fv : XE) : XS := fun l cs => onE (fv l) l cs fun v cs1 => onE (fd l) l cs1 fun o cs2 => onE (fk l) l cs2 fun k cs3 => match keyOf k, o.kvs l cs3 with
  | some k, some kvs => if kvs.length < 1000000 then chgD l o cs3 (dpK kvs k v) else .no
  | _, _ => .no
/-! ### rules -/
section
variable {X : Cx} {z : ZT} {j : Nat} {o i e f a b : Expr} {fd : XD} {fk fv fx : XE} {pos tpos apos : Pos}
/-! d.get(k, x), k may be None -/
/-! changes -/
/-! new ones -/
end
end F

/-! list(d.values()), sum, x op= e, while, list(range(n)), list * int, an owned list by its place -/
namespace L2
open PySem PySem.Spec PyProof.Rows
end L2
namespace F
open PySem PySem.Spec L2 Evl PyProof.Rows
def xDvals (fd : XD) : XE := fun l => bd (fd l) fun o => rd fun cs => (o.kvs l cs).map fun kvs => .lst (kvs.map (·.2))
section
variable {X : Cx} {z : ZT} {j i : Nat} {o e : Expr} {fd : XD} {fe : XE} {p pos apos cpos : Pos}
/-! sum -/
def intsOf : List D → Option (List Int)
  | [] => some []
  | .int i :: ds => (intsOf ds).map (i :: ·)
  | _ => none
def dSum (cs : Cells) : List D → Option D
  | [d] => match lsR cs d with
    | some ds => (intsOf ds).map fun ns => .int ns.sum
    | none => none
  | _ => none
/-! x op= e -/
/-! while -/
/-! list(range(n)) -/
/-! list * int -/
/-! an owned list by its place -/
def xIxO (i : Nat) (fi : XE) : XE := fun l => match l[i]? with
  | some (.own (.lst xs)) => bd (fi l) fun y => rd fun _ => match y with
    | .int k => atI xs k
    | _ => none
  | some (.val d) => bd (fi l) fun y => rd fun cs => dIx cs d y
  | _ => no
end
end F

/-! a, b = [], {} : two new things of one's own -/
namespace F
open PySem PySem.Spec L2 Evl PyProof.Rows
def sPar2O (i j : Nat) (c c' : C) : XS := fun l cs => .go (.nx ((l.set i (.own c)).set j (.own c'))) cs
section
variable {X : Cx} {z : ZT} {i j : Nat} {a b : Expr} {st : Stmt} {c c' : C} {o o' : HO} {pos : Pos}
end
end F

/-! == of tuples of instances with an own == -/
namespace GR
open PySem PySem.SeqAt
open AutoSeq1 (wpAny_loadPart')
open MeetsSeq MeetsSeq2 MeetsSeq3 SeqRoads2
open GQ (FinOf call_here)
section
variable {prog : Program} {w : World} {A : Around} {R : Result → Shared → Prop}
end
section
variable {prog : Program} {w : World} {A : Around} {E : Value → Shared → Prop} {s : Shared}
end
end GR
namespace F
open PySem PySem.Spec PyProof.Rows L2 Evl
/-- a run that leaves the cells as they were -/
noncomputable def still (m : EM D) : EM D := open Classical in fun cs => match m cs with
  | .ok d cs' => if cs' = cs then .ok d cs else .no
  | .exc _ _ => .no
  | .no => .no
section
variable {X : Cx} {k j : Nat} {T : Tb} {eqs : EqT} {ord : OrT}
end
section
variable {X : Cx} {z : ZT} {e a b : Expr} {fa fb : XE} {T : Tb} {eqs : EqT} {ord : OrT}
end
end F

/-! a, b, c = [], [], [] : three new lists of one's own; sum of an owned list -/
namespace F
open PySem PySem.Spec L2 Evl PyProof.Rows
def sPar3O (i j k : Nat) (c c' c'' : C) : XS := fun l cs => .go (.nx (((l.set i (.own c)).set j (.own c')).set k (.own c''))) cs
def xSumO (i : Nat) : XE := fun l => match l[i]? with
  | some (.own (.lst xs)) => rd fun _ => (intsOf xs).map fun ns => .int ns.sum
  | some (.val d) => rd fun cs => dSum cs [d]
  | _ => no
section
variable {X : Cx} {z : ZT} {i j k : Nat} {a b e : Expr} {st : Stmt} {c c' c'' : C} {o o' o'' : HO} {p pos : Pos}
end
/-! plain -/
section
variable {cs : Cells} {l : Loc} {Q : D → Cells → Prop} {E : Exn → Cells → Prop} {P : Fl → Cells → Prop} {i j k : Nat}
theorem s_par3O {c c' c'' : C} : wpS (sPar3O i j k c c' c'' l cs) P ↔ P (.nx (((l.set i (.own c)).set j (.own c')).set k (.own c''))) cs := Iff.rfl
theorem w_sumO : wp (xSumO i l) cs Q E ↔ (match l[i]? with
    | some (.own (.lst xs)) => ∃ r, ((intsOf xs).map fun ns => D.int ns.sum) = some r ∧ Q r cs
    | some (.val d) => ∃ r, dSum cs [d] = some r ∧ Q r cs
    | _ => False) := by
  unfold xSumO
  generalize l[i]? = o
  rcases o with _ | s
  · exact Iff.rfl
  · cases s with
    | own c => cases c <;> first | exact wp_rd | exact Iff.rfl
    | _ => first | exact wp_rd | exact Iff.rfl
end
end F
/-! in, not in: data of any depth in a list -/
namespace F
open PySem PySem.Spec L2 Evl PyProof.Rows
section
variable {X : Cx}
end
end F
/-! a list made by a comprehension into a name that comprehensions see, owned -/
namespace F
open PySem PySem.Spec L2 Evl PyProof.Rows
section
variable {X : Cx} {z : ZT} {elt tg iter : Expr} {ifs : List Expr} {scope : Scope} {own : List (Str × Nat)} {pos : Pos} {ts : List Nat} {f : XA} {g : XG} {t : XB} {e : XE}
end
end F
/-! a part of the heap found level by level, what is seen as one number -/
namespace F
open PySem PySem.Spec L2 Evl PyProof.Rows He E
/-- adds what is not seen yet to what is new -/
def addN : List Addr → List Addr → Nat → (List Addr → Nat → List Addr) → List Addr
  | [], new, seen, k => k new seen
  | a :: r, new, seen, k => match Nat.beq (Nat.land (Nat.shiftRight seen a) 1) 0 with
    | true => addN r (a :: new) (Nat.lor seen (Nat.shiftLeft 1 a)) k
    | false => addN r new seen k
def lvlN (g : Addr → Option Obj) : List Addr → List Addr → Nat → (List Addr → Nat → List Addr) → List Addr
  | [], new, seen, k => k new seen
  | a :: r, new, seen, k => match g a with
    | some o => addN (refsD o) new seen fun new seen => lvlN g r new seen k
    | none => lvlN g r new seen k
def asBF (g : Addr → Option Obj) : Nat → List Addr → Nat → List Addr
  | 0, fr, _ => fr
  | n + 1, fr, seen => fr ++ lvlN g fr [] seen fun new seen => asBF g n new seen
def obsBG (n : Nat) (ex : PySem.W.Frag → Bool) (fn : List Df) (g : Addr → Option Obj) : AlE := obsE ex fn (frG g (PySem.cStatics :: asBF g n [mainGlobals] (Nat.shiftLeft 1 mainGlobals)))
def hookB (n : Nat) (ex : PySem.W.Frag → Bool) (fn : List Df) : PySem.W.Hook where
  α := AlE
  obs := fun s => obsBG n ex fn s.heap.get?
  val := fun _ => valE fn
  says := fun _ h => ∃ K : PySem.W.Frag, K.In h ∧ SaysE ex fn K
  of := fun _ _ e => ⟨_, frG_in, e⟩
  keeps := fun _ _ _ ⟨K, hK, c⟩ k => ⟨K, PySem.W.Frag.In.keeps hK k, c⟩
theorem obsBG_eq {n : Nat} {ex : PySem.W.Frag → Bool} {fn : List Df} {g : Addr → Option Obj} {s : Shared} (h : ∀ a, g a = s.heap.get? a) : obsBG n ex fn g = (hookB n ex fn).obs s := by
  have e : g = s.heap.get? := funext h
  rw [e] <;> rfl
end F

/-! methods whose body is: return super().m(); the head's facts with them -/
namespace F
open PySem PySem.Spec PyProof.Rows L2 He E Evl
open PySem.W (ksEnv ksFn ks_superIn)
section
variable {P : Program} {w : World} {K : PySem.W.Frag} {mg : Str → Option Value} {base : Heap} {qual name : Str} {scope : Scope} {f cc cda DD g : Addr} {A : Around} {outer : List Env} {s : Shared} {H : Hp} {a : Str} {cl : Value} {cld : Option Addr} {csl : Array (Option Value)}
end
end F
/-! the head's facts with such methods -/
namespace F
open PySem PySem.Spec PyProof.Rows L2 He E Evl
structure Dw where
  ad : PySem.W.Frag → Addr
  D : PySem.W.Frag → Addr
  name : Str
  qual : Str
  st : Stmt
def Dw.val (d : Dw) : E.FnV := some (d.name, d.qual, defArgs d.st, .stmts (defBody d.st), defScope d.st, mainGlobals, builtinsNs)
abbrev AlV : Type := Bool × List FnW × List E.FnV
def obsV (fl : Str) (ex : PySem.W.Frag → Bool) (fn : List Df) (fv : List Dw) (K : PySem.W.Frag) : AlV := (ex K && ((fn.all fun d => d.ok K) && fv.all fun d => supFB K (d.ad K) (d.D K) fl d.qual), fn.map (fun d => fnAt K (d.ad K)), fv.map fun d => fnVt K (d.ad K))
def valV (fn : List Df) (fv : List Dw) : AlV := (true, fn.map Df.val, fv.map Dw.val)
def SaysV (fl : Str) (ex : PySem.W.Frag → Bool) (fn : List Df) (fv : List Dw) (K : PySem.W.Frag) : Prop := obsV fl ex fn fv K = valV fn fv
section
variable {fl : Str} {ex : PySem.W.Frag → Bool} {fn : List Df} {fv : List Dw} {K : PySem.W.Frag}
theorem SaysV.one (c : SaysV fl ex fn fv K) : (ex K && ((fn.all fun d => d.ok K) && fv.all fun d => supFB K (d.ad K) (d.D K) fl d.qual)) = true := congrArg (fun z : AlV => z.1) c
theorem SaysV.fact (c : SaysV fl ex fn fv K) : ex K = true := (ba c.one).1
theorem SaysV.def_ (c : SaysV fl ex fn fv K) (i : Nat) {d : Df} (h : fn[i]? = some d := by rfl) : ∃ fd, FunD K d.name d.qual (defArgs d.st) (defBody d.st) (defScope d.st) (d.dvs K) (d.kws K) (d.ad K) fd := by
  have c2 := (ba (ba c.one).2).1
  have e : fn.map (fun d => fnAt K (d.ad K)) = fn.map Df.val := congrArg (fun z : AlV => z.2.1) c
  have e2 : (fn.map fun d => fnAt K (d.ad K))[i]? = (fn.map Df.val)[i]? := by rw [e]
  rw [List.getElem?_map, List.getElem?_map, h] at e2
  exact Df.funD (Option.some.inj e2) (List.all_eq_true.mp c2 d (List.mem_of_getElem? h))
end
end F
namespace F
open PySem PySem.Spec L2 He E
end F

/-! several clauses without a name: except C -/
namespace E
open PySem PySem.Spec PyProof.Rows L2 He
abbrev ClN := Value × (Addr → Value → Option Addr → TS)
inductive HdsN (X : Cx) : List ExceptHandler → List ClN → Prop
  | nil : HdsN X [] []
  | cons {x : Str} {c : Value} {ts : Addr → Value → Option Addr → TS} {b₀ : Stmt} {suite : List Stmt} {np pos' : Pos} {hds : List ExceptHandler} {l : List ClN} (hc : Names X x c)
      (hsu : ∀ (a : Addr) (oe : Obj) (cls : Value) (d : Option Addr) (pn : List (Addr × Obj)), L2N.Zn cls d oe → (∃ vs, oe.data = .fields vs) → PSs (X.suite a ((a, oe) :: pn)) (b₀ :: suite) (ts a cls d)) (r : HdsN X hds l) :
      HdsN X (.ExceptHandler (some (.Name x np)) none (b₀ :: suite) pos' :: hds) ((c, ts) :: l)
section
variable {X : Cx} {body : List Stmt} {h₀ : ExceptHandler} {hds : List ExceptHandler} {l : List ClN} {pos : Pos} {tb : WX → TS} {Wout : WX}
end
end E

/-! try with clauses without a name: except C -/
namespace F
open PySem PySem.Spec PyProof.Rows L2 Evl
abbrev ClzN := Tag × XS
inductive JHN (X : Cx) (z : ZT) : List ExceptHandler → List ClzN → Prop
  | nil : JHN X z [] []
  | cons {x : Str} {t : Tag} {c : Value} {su : XS} {b₀ : Stmt} {suite : List Stmt} {np pos' : Pos} {hds : List ExceptHandler} {l : List ClzN} (ht : tagV (sx X) t = some c) (hc : Names X x c)
      (hsu : ∀ (a : Addr) (oe : Obj) (cls : Value) (d : Option Addr) (pn : List (Addr × Obj)), L2N.Zn cls d oe → (∃ vs, oe.data = .fields vs) → JSs (X.suite a ((a, oe) :: pn)) z (b₀ :: suite) su) (r : JHN X z hds l) :
      JHN X z (.ExceptHandler (some (.Name x np)) none (b₀ :: suite) pos' :: hds) ((t, su) :: l)
section
variable {X : Cx} {z : ZT} {body : List Stmt} {h₀ : ExceptHandler} {hds : List ExceptHandler} {cl : List ClzN} {pos : Pos} {b : XS} {T : Te}
def clsN (Z : Sx) (z : ZT) (B : Wd) : List ClzN → List Value → List E.ClN
  | (t, su) :: r, c :: cs => (c, fun a cls d => tS Z z B su fun _ _ _ => False) :: clsN Z z B r cs
  | _, _ => []
inductive JHN' (X : Cx) (z : ZT) : List ExceptHandler → List ClzN → List Value → Prop
  | nil : JHN' X z [] [] []
  | cons {x : Str} {t : Tag} {c : Value} {su : XS} {b₀ : Stmt} {suite : List Stmt} {np pos' : Pos} {hds : List ExceptHandler} {l : List ClzN} {cs : List Value} (ht : tagV (sx X) t = some c) (hc : Names X x c)
      (hsu : ∀ (a : Addr) (oe : Obj) (cls : Value) (d : Option Addr) (pn : List (Addr × Obj)), L2N.Zn cls d oe → (∃ vs, oe.data = .fields vs) → JSs (X.suite a ((a, oe) :: pn)) z (b₀ :: suite) su) (r : JHN' X z hds l cs) :
      JHN' X z (.ExceptHandler (some (.Name x np)) none (b₀ :: suite) pos' :: hds) ((t, su) :: l) (c :: cs)
theorem JHN.vals (h : JHN X z hds cl) : ∃ cs, JHN' X z hds cl cs := by
  induction h with
  | nil => exact ⟨[], .nil⟩
  | cons ht hc hsu r ih =>
    obtain ⟨cs, q⟩ := ih
    exact ⟨_ :: cs, .cons ht hc hsu q⟩
theorem JHN'.toH (B : Wd) {cs : List Value} (h : JHN' X z hds cl cs) : E.HdsN X hds (clsN (sx X) z B cl cs) := by
  induction h with
  | nil => exact .nil
  | cons ht hc hsu r ih => exact .cons hc (fun a oe cls d pn z1 z2 => (hsu a oe cls d pn z1 z2).run B _ takes_no) ih
end
end F

/-! t.index(x) with x there; zip of two tuples -/
namespace F
open PySem PySem.Spec PyProof.Rows L2 Evl
def tupOf : D → Option (List D)
  | .tup xs => some xs
  | _ => none
/-- the first place of a text among texts -/
def tixD (xs : List D) (y : D) : Option D := match strsOf xs, y with
  | some ys, .str z => (ys.findIdx? fun y => decide (y = z)).map fun (j : Nat) => .int j
  | _, _ => none
def xTix (fo fe : XE) : XE := fun l => bd (fo l) fun x => bd (rd fun _ => tupOf x) fun xs => bd (fe l) fun y => rd fun _ => tixD xs y
def zipD (xs ys : List D) : List D := (xs.zip ys).map fun p => .tup [p.1, p.2]
def zipO (x y : D) : Option (List D) := match x, y with
  | .tup xs, .tup ys => some (zipD xs ys)
  | _, _ => none
def iZip (fa fb : XE) : XA := fun l => bd (fa l) fun x => bd (fb l) fun y => rd fun _ => zipO x y
section
variable {X : Cx} {z : ZT} {o e a b : Expr} {fo fe fa fb : XE} {p pos apos cpos tpos : Pos} {elts : List Expr} {kk : Nat}
end
end F

/-! zip of two tuples and a third thing (a tuple or a list) -/
namespace F
open PySem PySem.Spec PyProof.Rows L2 Evl
inductive Sk where
  | t | l
def Sk.V (k : Sk) (K : PySem.W.Frag) (H : Hp) (l : Addr) (xs : List V) : Prop := match k with
  | .t => SqT K H l xs
  | .l => SqL K H l xs
def Sk.it (k : Sk) : String := match k with
  | .t => "tuple_iterator"
  | .l => "list_iterator"
theorem nn {a b : Nat} (h : a ≠ b) : @Ne Addr a b := h
section
variable {h h' : Heap} {it l : Addr} {i : Nat} {xs : Array Value} {k : Sk}
end
section
variable {prog : Program} {w : World} {A : Around} {E : Value → Shared → Prop} {s : Shared} {k : Sk}
end
/-! zip(a, b, c) made -/
section
variable {prog : Program} {w : World} {A : Around} {E : Value → Shared → Prop} {s : Shared} {k : Sk}
end
/-! the walk -/
end F

/-! tuple(o), o == e, o != e of an owned list -/
namespace F
open PySem PySem.Spec PyProof.Rows L2 Evl
def xTupO (i : Nat) : XE := fun l => match l[i]? with
  | some (.own (.lst xs)) => rt (.tup xs)
  | _ => no
section
variable {X : Cx} {z : ZT} {a b e : Expr} {fb : XE} {i : Nat} {p pos : Pos}
end
end F

/-! the ends of iterators where an exception is handled; unpacking, enumerate and comprehensions there -/
namespace HotX
open PySem PySem.Spec PyProof.Rows
section
variable {prog : Program} {w : World} {A : Around} {E : Value → Shared → Prop} {s : Shared}
theorem hot_ne {x1 it : Addr} {o : Obj} {u v : Value} (hot : HotAt A x1 s.heap) (ho : s.heap.get? it = some o) (hd : o.data = .fields #[u, v]) : x1 ≠ it := by
  obtain ⟨_, o1, vs1, h1, d1, c1⟩ := hot
  intro e
  rw [e, ho] at h1
  have h1 := Option.some.inj h1
  rw [← h1, hd] at d1
  have d1 := Data.fields.inj d1
  rw [← d1] at c1
  simp at c1
theorem next_tuple_end_hot {it t x1 : Addr} {i : Nat} {items} {Q : Option Value → Shared → Prop} (hot : HotAt A x1 s.heap)
    (hit : IsTupIter s.heap it t i) (ht : IsTup s.heap t items) (hx : items[i]? = none)
    (hQ : ∀ h', Heap.ExtBut it s.heap h' → Q none { s with heap := h' }) : wpAny (model prog w) A (pyNext (.ref it)) Q E s := by
  obtain ⟨o, ho, hc, hd⟩ := id hit
  obtain ⟨ol, hol, _, nl, hdl⟩ := ht
  have hne := hot_ne hot ho hd
  obtain ⟨hh, o1, vs1, h1, d1, c1⟩ := hot
  unfold pyNext
  refine wpAny_bind (wpAny_attempt (wpAny_callSpecial?_slot (name := Str.ofString "__next__") hit.typeIs slot_tupleiter_next
    (wpAny_call_entry slot_tupleiter_next hit.typeIs entry_tupleiter_next ?_ (args_tupleiter_next _))))
  show wpAny _ _ (field (.ref it) 0 >>= _) _ _ s
  refine wpAny_bind (wpAny_field ho hd (x := .ref t) rfl ?_)
  show wpAny _ _ (if (Value.ref t == Value.none) = true then _ else _) _ _ s
  rw [if_neg (show ¬ ((Value.ref t == Value.none) = true) from Bool.false_ne_true)]
  show wpAny _ _ (field (.ref it) 1 >>= _) _ _ s
  refine wpAny_bind (wpAny_field ho hd (x := .int i 0) rfl ?_)
  show wpAny _ _ (seqItems? (.ref t) >>= _) _ _ s
  refine wpAny_bind (wpAny_seqItems hol hdl ?_)
  simp only [Int.toNat_natCast, hx]
  refine wpAny_bind (wpAny_rule (wpAny_bind (wpAny_setField ho hd (by simp) ?_)))
  show wpAny _ _ (newExc (.type "StopIteration") [] >>= _) _ _ _
  refine wpAny_bind ?_
  simp only [newExc, newTuple]
  refine wpAny_bind (wpAny_newObj_type ?_ (by size_fits))
  refine wpAny_bind (m := firstArgMember _ _) (wpAny_of_eq (a := Value.none) (by first | rfl | (simp only [firstArgMember]; rfl)) ?_)
  refine wpAny_newObj_type ?_ (by size_fits)
  refine raiseNew_hot ⟨hh, o1, vs1, Heap.get?_push_of_some _ (Heap.get?_push_of_some _ ((Heap.get?_update_other _ _ (Ne.symm hne)).trans h1)), d1, c1⟩ (Nat.ne_of_lt (Heap.lt_size (Heap.get?_push_of_some _ ((Heap.get?_update_other _ _ (Ne.symm hne)).trans h1)))) (Heap.get?_push_size _ rfl) rfl (by first | (simp; done) | (simp; omega) | (simp only [Array.size_append]; simp; omega)) ?_
  refine wpAny_bind (wpAny_isInstance (T := "StopIteration") (b := true) ⟨_, Heap.get?_update_self _ (Heap.get?_push_size _ rfl) rfl, rfl⟩ isSubtype_stop ?_)
  refine wpAny_pure (hQ _ fun b o hb e => ?_)
  rw [Heap.get?_update_other _ _ (Nat.ne_of_gt (Heap.lt_size (Heap.get?_push_of_some _ ((Heap.get?_update_other _ _ (Ne.symm hb)).trans e))))]
  exact Heap.get?_push_of_some _ (Heap.get?_push_of_some _ ((Heap.get?_update_other _ _ (Ne.symm hb)).trans e))
theorem HotAt.keep {x1 : Addr} {h h' : Heap} (hot : HotAt A x1 h) (k : ∀ o, h.get? x1 = some o → h'.get? x1 = some o) : HotAt A x1 h' := by
  obtain ⟨hh, o1, vs1, h1, d1, c1⟩ := hot
  exact ⟨hh, o1, vs1, k _ h1, d1, c1⟩
theorem HotAt.lt {x1 : Addr} {h : Heap} (hot : HotAt A x1 h) : x1 < h.objs.size := by
  obtain ⟨hh, o1, vs1, h1, d1, c1⟩ := hot
  exact Heap.lt_size h1
theorem unpackItems_tuple_hot {t x1 : Addr} {items : Array Value} {Q : List Value → Shared → Prop} (hot : HotAt A x1 s.heap) (ht : IsTup s.heap t items)
    (hQ : ∀ h', Heap.ExtBut s.heap.objs.size s.heap h' → Q items.toList { s with heap := h' }) : wpAny (model prog w) A (unpackItems (.ref t) items.size none) Q E s := by
  have hlt : t ≠ s.heap.objs.size := by obtain ⟨o, ho, _⟩ := ht; exact Nat.ne_of_lt (Heap.lt_size ho)
  have hx := Nat.ne_of_lt hot.lt
  unfold unpackItems
  refine wpAny_bind ?_
  · unfold notIterableAtAll
    refine wpAny_bind (wpAny_specialOf ht.typeIs slot_tuple_iter.lookup ?_)
    refine wpAny_pure ?_
    simp only [Bool.false_eq_true, if_false]
    refine wpAny_bind (wpAny_holding (iter_tuple ht ?_))
    refine wpAny_bind (wpAny_holding (draw_tuple hlt items.size 0 _ _ ⟨_, Heap.get?_push_size _ rfl, rfl, rfl⟩ (ht.push _) (by omega) fun h₁ hit₁ hs₁ => ?_))
    have hall : List.take items.size (List.drop 0 items.toList) = items.toList := by
      rw [List.drop_zero]; exact List.take_of_length_le (by simp)
    rw [hall]
    rw [if_neg (by simp)]
    have ht₁ : IsTup h₁ t items := (ht.push _).extBut hs₁.extBut hlt
    have hot₁ : HotAt A x1 h₁ := hot.keep fun o e => hs₁.extBut x1 o hx (Heap.get?_push_of_some _ e)
    refine wpAny_bind (wpAny_holding (next_tuple_end_hot hot₁ hit₁ ht₁ (by simp) fun h₂ he₂ => ?_))
    simp only [Option.isSome_none, Bool.false_eq_true, if_false]
    refine wpAny_pure (hQ h₂ fun b o hb e => he₂ b o hb (hs₁.extBut b o hb (Heap.get?_push_of_some _ e)))
theorem unpack_tuple_hot {t x1 : Addr} {items : Array Value} {targets : List (Bool × (Value → Sem Unit))} {Q : Unit → Shared → Prop} (hot : HotAt A x1 s.heap) (ht : IsTup s.heap t items)
    (hn : targets.length = items.size) (hstar : targets.findIdx? (·.1) = none)
    (h : ∀ h', Heap.ExtBut s.heap.objs.size s.heap h' → wpAny (model prog w) A (assignInOrder (targets.map (·.2)) items.toList) Q E { s with heap := h' }) :
    wpAny (model prog w) A (unpack (.ref t) targets) Q E s := by
  unfold unpack
  rw [hn, hstar]
  exact wpAny_bind (wpAny_holding (unpackItems_tuple_hot hot ht h))
theorem assign_Tuple_tuple_hot {env : Env} {elts : List Expr} {k} {pos : Pos} {t x1 : Addr} {items : Array Value} {Q : Unit → Shared → Prop} (hot : HotAt A x1 s.heap) (ht : IsTup s.heap t items)
    (hn : (assignEach elts env).length = items.size) (hstar : (assignEach elts env).findIdx? (·.1) = none)
    (h : ∀ h', Heap.ExtBut s.heap.objs.size s.heap h' → wpAny (model prog w) A (assignInOrder ((assignEach elts env).map (·.2)) items.toList) Q E { s with heap := h' }) :
    wpAny (model prog w) A (assign (.Tuple elts k pos) env (.ref t)) Q E s := by
  rw [assign_Tuple]
  exact wpAny_bind (wpAny_standAt (unpack_tuple_hot hot ht hn hstar h))
theorem nextOf_list_end_hot {it l x1 : Addr} {i : Nat} {items} {Q : Value → Shared → Prop} (hot : HotAt A x1 s.heap)
    (hit : s.heap.IsListIter it l i) (hl : s.heap.IsList l items) (hx : items[i]? = none)
    (hE : ∀ h' e, Heap.ExtBut it s.heap h' → (∃ o, h'.get? e = some o ∧ o.cls = .type "StopIteration") → E (.ref e) { s with heap := h' }) :
    wpAny (model prog w) A (Builtin.SmallTypes.nextOf (.ref it)) Q E s := by
  obtain ⟨o, ho, hc, hd⟩ := id hit
  obtain ⟨ol, hol, _, nl, hdl⟩ := hl
  have hne := hot_ne hot ho hd
  obtain ⟨hh, o1, vs1, h1, d1, c1⟩ := hot
  unfold Builtin.SmallTypes.nextOf
  refine wpAny_bind (wpAny_callSpecial?_slot (name := Str.ofString "__next__") hit.typeIs slot_listiter_next
    (wpAny_call_entry slot_listiter_next hit.typeIs entry_listiter_next ?_ (args_listiter_next _)))
  show wpAny _ _ (field (.ref it) 0 >>= _) _ _ s
  refine wpAny_bind (wpAny_field ho hd (x := .ref l) rfl ?_)
  show wpAny _ _ (if (Value.ref l == Value.none) = true then _ else _) _ _ s
  rw [if_neg (show ¬ ((Value.ref l == Value.none) = true) from Bool.false_ne_true)]
  show wpAny _ _ (field (.ref it) 1 >>= _) _ _ s
  refine wpAny_bind (wpAny_field ho hd (x := .int i 0) rfl ?_)
  show wpAny _ _ (seqItems? (.ref l) >>= _) _ _ s
  refine wpAny_bind (wpAny_seqItems hol hdl ?_)
  simp only [Int.toNat_natCast, hx]
  refine wpAny_bind (wpAny_rule (wpAny_bind (wpAny_setField ho hd (by simp) ?_)))
  show wpAny _ _ (newExc (.type "StopIteration") [] >>= _) _ _ _
  refine wpAny_bind ?_
  simp only [newExc, newTuple]
  refine wpAny_bind (wpAny_newObj_type ?_ (by size_fits))
  refine wpAny_bind (m := firstArgMember _ _) (wpAny_of_eq (a := Value.none) (by first | rfl | (simp only [firstArgMember]; rfl)) ?_)
  refine wpAny_newObj_type ?_ (by size_fits)
  refine raiseNew_hot ⟨hh, o1, vs1, Heap.get?_push_of_some _ (Heap.get?_push_of_some _ ((Heap.get?_update_other _ _ (Ne.symm hne)).trans h1)), d1, c1⟩ (Nat.ne_of_lt (Heap.lt_size (Heap.get?_push_of_some _ ((Heap.get?_update_other _ _ (Ne.symm hne)).trans h1)))) (Heap.get?_push_size _ rfl) rfl (by first | (simp; done) | (simp; omega) | (simp only [Array.size_append]; simp; omega)) ?_
  refine hE _ _ (fun b o hb e => ?_) ⟨_, Heap.get?_update_self _ (Heap.get?_push_size _ rfl) rfl, rfl⟩
  rw [Heap.get?_update_other _ _ (Nat.ne_of_gt (Heap.lt_size (Heap.get?_push_of_some _ ((Heap.get?_update_other _ _ (Ne.symm hb)).trans e))))]
  exact Heap.get?_push_of_some _ (Heap.get?_push_of_some _ ((Heap.get?_update_other _ _ (Ne.symm hb)).trans e))
theorem pyNext_enum_end_hot {e it l x1 : Addr} {i : Nat} {items : Array Value} {old : Value} {Q : Option Value → Shared → Prop} (hot : HotAt A x1 s.heap)
    (he : IsEnum s.heap e it i old) (hit : s.heap.IsListIter it l i) (hl : s.heap.IsList l items) (hx : items[i]? = none)
    (hQ : ∀ h', Heap.ExtBut it s.heap h' → Q none { s with heap := h' }) : wpAny (model prog w) A (pyNext (.ref e)) Q E s := by
  have hT : s.TypeIs (.ref e) "enumerate" := ⟨_, he, rfl⟩
  unfold pyNext
  refine wpAny_bind (wpAny_attempt (wpAny_callSpecial?_slot (name := Str.ofString "__next__") hT F.slot_enumerate_next
    (wpAny_call_entry F.slot_enumerate_next hT F.entry_enumerate_next ?_ (F.args_enumerate_next_1 _))))
  show wpAny _ _ (field (.ref e) 2 >>= _) _ _ _
  refine wpAny_bind (wpAny_field he rfl (x := .ref it) rfl ?_)
  refine wpAny_bind (nextOf_list_end_hot hot hit hl hx fun h' x he' hx' => ?_)
  obtain ⟨o, ho, hc⟩ := hx'
  refine wpAny_bind (wpAny_isInstance (T := "StopIteration") (b := true) ⟨o, ho, hc⟩ isSubtype_stop ?_)
  exact wpAny_pure (hQ _ he')
end
end HotX

/-! walks over lists and enumerate, targets that are tuples, where an exception is handled -/
namespace L2H
open PySem PySem.Spec PyProof.Rows L2 HotX
theorem turn_enumH {P : Program} {w : World} {K : PySem.W.Frag} {elts : List Expr} {kk : Nat} {tpos : Pos} (a e it : Addr) :
    TurnH P w K (.Tuple elts kk tpos) (Ite K a) [e, it] e (fun i h => (∃ old, IsEnum h e it ((i : Nat) : Int) old) ∧ h.IsListIter it a i ∧ e ≠ it) where
  mem := (turn_enum (P := P) (w := w) (K := K) (elts := elts) (kk := kk) (tpos := tpos) a e it).mem
  obj := (turn_enum (P := P) (w := w) (K := K) (elts := elts) (kk := kk) (tpos := tpos) a e it).obj
  keep := (turn_enum (P := P) (w := w) (K := K) (elts := elts) (kk := kk) (tpos := tpos) a e it).keep
  item := by
    intro X hP hw hK hc i pins s σ H E I hf st hg
    subst hP hw hK
    obtain ⟨⟨old, he⟩, hit, hne⟩ := st
    obtain ⟨xs, x, hq, hx⟩ := hg
    obtain ⟨its, rv, p, hz⟩ := I.list hq
    obtain ⟨u, hu, ru⟩ := rv.get hx
    have hel : e < s.heap.objs.size := Heap.lt_size he
    have hil : it < s.heap.objs.size := by obtain ⟨_, q, _⟩ := hit; exact Heap.lt_size q
    refine wpAny_pyNext_enum_item he hit p.isList (x := u) (by simpa using hu) hne fun h' ho hit' hT hsz hk => ?_
    refine ⟨_, rfl, wpAny_letOwnedTupleGo_enum (s := { s with heap := h', toks := s.toks + 1 }) ho fun h'' he' sb => ?_⟩
    have hT2 : h''.get? s.heap.objs.size = some { cls := .type "tuple", data := .seq #[.int i s.toks, u] } := (sb.2 _ (Nat.ne_of_gt hel)).trans hT
    have new : ObjOk X.prog X.w (upd H s.heap.objs.size (.tup [.int (i : Nat), x])) h'' s.heap.objs.size (.tup [.int (i : Nat), x]) :=
      ⟨by show 2 ≤ sizeLine; decide, [.int i s.toks, u], .cons ⟨_, rfl⟩ (.cons ru .nil), ⟨_, hT2, rfl, _, rfl⟩⟩
    have I1 : Inv X pins σ (upd H s.heap.objs.size (.tup [.int (i : Nat), x])) { s with heap := h'', toks := s.toks + 1 } :=
      I.turnedNew (ch := [e, it]) (fun b ob hb q => (sb.2 b (fun z => hb (by simp [z]))).trans (hk b ob (fun z => hb (by simp [z])) (fun z => hb (by simp [z])) q)) hf (Nat.le_refl _) new
    refine ⟨.ref s.heap.objs.size, _, I1, rfl, ⟨_, x, rfl, I.hok.fresh (Nat.le_refl _), rfl, fun ys hy => by rw [I.list_inj hy hq]; exact hx⟩, ⟨⟨u, ?_⟩, hit'.at fun o q => (sb.2 it (Ne.symm hne)).trans q, hne⟩, fun b hb => ?_⟩
    · have e1 : ((i + 1 : Nat) : Int) = (i : Int) + 1 := by omega
      rw [e1]; exact he'
    · have hb' : b < s.heap.objs.size := by
        have e' : b = e ∨ b = it := by simpa using hb
        rcases e' with z | z
        · rw [z]; exact hel
        · rw [z]; exact hil
      rw [upd_ne (Nat.ne_of_lt hb')]
      exact (hf b hb).1
  done := by
    intro X hP hw hK hc i pins s σ H E I hf st hg
    subst hP hw hK
    obtain ⟨⟨old, he⟩, hit, hne⟩ := st
    obtain ⟨xs, hq, hx⟩ := hg
    obtain ⟨its, rv, p, hz⟩ := I.list hq
    obtain ⟨f0, f1, f2, f3, f4, f5⟩ := hf it (by simp)
    have hl := rv.length
    obtain ⟨x1, hot⟩ := hc.at I
    exact pyNext_enum_end_hot hot he hit p.isList (by simp; omega) fun h' eb => ⟨rfl, I.turned (t' := s.toks) (fun b o hb q => eb b o hb q) f0 f1 f3 f4 f5⟩
  self := (turn_enum (P := P) (w := w) (K := K) (elts := elts) (kk := kk) (tpos := tpos) a e it).self
theorem pg_tupH {X : Cx} {es : List Expr} {k : Nat} {t : TGs} {n : Nat} {pos : Pos} (hc : HotC X) (h : PGs X es t)
    (hn : (assignEach es X.env).length = n := by rfl) (hst : (assignEach es X.env).findIdx? (·.1) = none := by rfl) : PG X (.Tuple es k pos) (gTup X.K n t) := by
  refine ⟨fun pins s σ H v u Q I r hw => ?_⟩
  obtain ⟨a, xs, e1, hq, hl, hw⟩ := hw
  subst e1
  cases r
  obtain ⟨its, rv, ht, hz⟩ := I.tuple hq
  obtain ⟨x1, hot⟩ := hc.at I
  refine assign_Tuple_tuple_hot hot ht (by simp [hn, ← hl, rv.length]) hst fun h' hx => ?_
  have I1 : Inv X pins σ H { s with heap := h' } := I.kept (t' := s.toks) fun b o e => hx b o (Nat.ne_of_lt (Heap.lt_size e)) e
  exact h.run pins _ σ H xs _ Q I1 (by simpa using rv) hw
end L2H

/-! comprehensions where an exception is handled -/
namespace L2H
open PySem PySem.Spec PyProof.Rows L2 HotX
abbrev blkP (X : Cx) (p : Addr × Obj) (s : Shared) (H : Hp) (scope : Scope) (cenv : Env) (fp : List Addr) : Cx := { X.blk s H scope cenv fp with pn := [p] }
theorem inv_pn {Y : Cx} {p : Addr × Obj} {σ : L2.St} {H : Hp} {s : Shared} (I : Inv Y [] σ H s) (e : Y.pn = []) (hp : s.heap.get? p.1 = some p.2 ∧ H p.1 = none ∧ p.1 ≠ Y.env.locals ∧ p.1 ∉ Y.fs ∧ ∀ v, p.2.data ≠ .cell v) : Inv { Y with pn := [p] } [] σ H s :=
  ⟨⟨I.ok.mod, I.ok.kind, I.ok.glob, I.ok.blt, I.ok.above, I.ok.inj, I.ok.has, I.ok.cab, I.ok.hd, I.ok.frames, I.ok.stk, I.ok.exf, I.ok.bs, I.ok.bsz, I.ok.noex, I.ok.exfs, I.ok.funs, I.ok.frf⟩, I.os, I.bare, I.base, I.loc, I.cell, I.free, I.freeC, fun q hq => by
    have hq : q ∈ [p] ++ ([] : List (Addr × Obj)) := hq
    rw [List.append_nil] at hq
    rw [List.mem_singleton.mp hq]
    exact hp, I.hok, I.len⟩
section
variable {X : Cx}
theorem lc_coreH {pins : List (Addr × Obj)} {s : Shared} {σ : St} {H : Hp} {Q : VK} {elt tg iter : Expr} {ifs : List Expr} {scope : Scope} {own : List (Str × Nat)} {pos pos' : Pos} {wi : TI} {g : TG} {tt : TT} {te : TE} {use : Option (Value → Sem Unit)} {Qf : Value → Shared → Prop}
    (hc : HotC X) (hN : X.N.Nodup) (I : Inv X pins σ H s) (hi : PIH X tg iter wi) (ok : BlkOk X.N X.env.scope scope own)
    (hg : ∀ (p : Addr × Obj) (s : Shared) (H : Hp) (C : Addr) (cl : List (Str × Addr)) (fp : List Addr), HotC (blkP X p s H scope (compEnvC scope cl C X.env) fp) → PG (blkP X p s H scope (compEnvC scope cl C X.env) fp) tg g) (ht : ∀ (p : Addr × Obj) (s : Shared) (H : Hp) (C : Addr) (cl : List (Str × Addr)) (fp : List Addr), HotC (blkP X p s H scope (compEnvC scope cl C X.env) fp) → PTs (blkP X p s H scope (compEnvC scope cl C X.env) fp) ifs tt)
    (he : ∀ (p : Addr × Obj) (s : Shared) (H : Hp) (C : Addr) (cl : List (Str × Addr)) (fp : List Addr), HotC (blkP X p s H scope (compEnvC scope cl C X.env) fp) → PE (blkP X p s H scope (compEnvC scope cl C X.env) fp) elt te) (hs : ∀ x, foldedSetIterable iter X.env x = pure x)
    (h : tLc wi g tt te (own.map (·.2)) σ H Q)
    (hRR : ∀ D C s' m H', Inv X pins σ H' s' → Q (.ref D) H' → s'.heap.Ns C m → FpOk X pins H' C → compPost (model X.prog X.w) X.A X.xe use Qf (.ref D) C (.ok .next) s') :
    wpAny (model X.prog X.w) X.A (comprehension (.ListComp elt [⟨tg, iter, ifs, 0⟩] scope pos) scope X.env pos' (newList []) false (eval iter X.env) use) Qf X.xe s := by
  have hfree : ∀ y ∈ scope.names, y.2 = .free → ∃ c, X.env.cells.lookup y.1 = some c := fun y hy e => by
    rcases ok.free y hy e with k | k
    · exact I.ok.has _ (.inl k)
    · exact I.ok.has _ (.inr k)
  refine wpAny_comprehension_free (use := use) rfl hs (closure_ok hfree) ok.kind (fun y hy e => by rw [ok.uniq y hy, e])
    (thn (hi.run pins s σ H _ I h) fun xv s1 hx => thn hx fun itv s2 h2 => ?_)
  obtain ⟨it, fp, tn, J, H2, e, I2, T, st2, f2, q⟩ := h2
  subst e
  refine wpAny_newObj_type (newEnv_comp ?_) (by show 0 ≤ sizeLine; decide)
  generalize hD : s2.heap.objs.size = D
  have hDn : H2 D = none := I2.hok.fresh (Nat.le_of_eq hD)
  obtain ⟨W, ⟨m0, w0⟩, turn⟩ := q D hDn
  -- the new list
  generalize hs3 : ({ s2 with heap := s2.heap.push { cls := .type "list", data := .seq ([] : List Value).toArray } } : Shared) = s3
  have I3 : Inv X pins σ (upd H2 D (.lst [])) s3 := by
    rw [← hs3]
    refine I2.laid (t' := s2.toks) (fun b o e => Heap.get?_push_of_some _ e) (Nat.le_of_eq hD) ⟨Nat.zero_le _, [], 0, .nil, ?_⟩
    rw [← hD]
    exact Heap.get?_push_size _ rfl
  have h3 : s3.heap = s2.heap.push { cls := .type "list", data := .seq ([] : List Value).toArray } := by rw [← hs3]
  have sz : ∀ b ∈ fp, b < s2.heap.objs.size := fun b hb => by
    obtain ⟨o, e, _⟩ := T.obj _ _ st2 b hb
    exact Heap.lt_size e
  have f3 : ∀ b ∈ fp, FpOk X pins (upd H2 D (.lst [])) b ∧ b < s3.heap.objs.size := fun b hb => by
    have hlt := sz b hb
    refine ⟨⟨?_, (f2 b hb).2⟩, by rw [h3, Heap.size_push]; exact Nat.lt_succ_of_lt hlt⟩
    rw [upd_ne (by rw [← hD]; exact Nat.ne_of_lt hlt)]
    exact (f2 b hb).1
  have st3 : tn 0 s3.heap := T.keep _ _ _ st2 fun b _ o e => by rw [h3]; exact Heap.get?_push_of_some _ e
  obtain ⟨p, hot1, hpn⟩ := hc
  have hpin := I3.pin p (List.mem_append_left _ hpn)
  have I4 := inv_pn (p := p) (block_start I3 ok hN f3) rfl (by
    have k : ∀ (q : Addr) o, s3.heap.get? q = some o → (pushCells (s3.heap.push { cls := .type "dict", data := .dict #[] }) scope.names).get? q = some o := fun q o e => pushCells_keeps _ _ _ _ (Heap.get?_push_of_some _ e)
    refine ⟨k _ _ hpin.1, hpin.2.1, Nat.ne_of_lt (Heap.lt_size hpin.1), fun hm => ?_, hpin.2.2.2.2⟩
    have hm : p.1 ∈ frs X.stack := hm
    rcases I3.ok.stk with e | ⟨e, hf⟩
    · rw [e] at hm
      exact hpin.2.2.2.1 hm
    · rw [e] at hm
      unfold frs at hm
      rw [List.filterMap_cons, hf] at hm
      rcases List.mem_cons.mp hm with h1 | h1
      · exact hpin.2.2.1 h1
      · exact hpin.2.2.2.1 h1)
  have pg := hg p s3 (upd H2 D (.lst [])) s3.heap.objs.size (cellsFrom (s3.heap.objs.size + 1) scope.names (cloFrom X.env.cells scope.names [])) fp ⟨p, hot1, List.mem_singleton.mpr rfl⟩
  have pt := ht p s3 (upd H2 D (.lst [])) s3.heap.objs.size (cellsFrom (s3.heap.objs.size + 1) scope.names (cloFrom X.env.cells scope.names [])) fp ⟨p, hot1, List.mem_singleton.mpr rfl⟩
  have pe := he p s3 (upd H2 D (.lst [])) s3.heap.objs.size (cellsFrom (s3.heap.objs.size + 1) scope.names (cloFrom X.env.cells scope.names [])) fp ⟨p, hot1, List.mem_singleton.mpr rfl⟩
  show codeAny _ _ (.compStart (.ListComp elt [⟨tg, iter, ifs, 0⟩] scope pos) 0 (.ref it) (.ref D) (compEnvC scope (cellsFrom (s3.heap.objs.size + 1) scope.names (cloFrom X.env.cells scope.names [])) s3.heap.objs.size X.env)) (compPost (model X.prog X.w) X.A X.xe use Qf (.ref D) s3.heap.objs.size) { s3 with heap := pushCells (s3.heap.push { cls := .type "dict", data := .dict #[] }) scope.names }
  have nfp : ∀ b ∈ fp, (upd H2 D (.lst [])) b = none := fun b hb => (f3 b hb).1.1
  generalize hce : compEnvC scope (cellsFrom (s3.heap.objs.size + 1) scope.names (cloFrom X.env.cells scope.names [])) s3.heap.objs.size X.env = ce at I4 pg pt pe ⊢
  have cL : ce.locals = s3.heap.objs.size := by subst hce; rfl
  generalize hH3 : upd H2 D (.lst []) = H3 at I3 I4 pg pt pe w0 nfp f3
  generalize hs4 : ({ s3 with heap := pushCells (s3.heap.push { cls := .type "dict", data := .dict #[] }) scope.names } : Shared) = s4 at I4 ⊢
  have st4 : tn 0 s4.heap := T.keep _ _ _ st3 fun b _ o e => by rw [← hs4]; exact pushCells_keeps _ _ _ _ (Heap.get?_push_of_some _ e)
  have stat : ∀ {σ' : St} {H' : Hp} {s' : Shared}, Inv (blkP X p s3 H3 scope ce fp) [] σ' H' s' → (∀ b ∈ fp, H' b = none) → ∀ b ∈ fp, FpOk (blkP X p s3 H3 scope ce fp) [] H' b := fun {σ' H' s'} I' hn b hb =>
    ⟨hn b hb, (I'.ok.exf b hb).1, I'.ok.exfs b hb, .inl hb, fun x c e => (I'.ok.exf b hb).2 x c e, fun q hq => by
      have hq : q ∈ [p] ++ ([] : List (Addr × Obj)) := hq
      rw [List.append_nil] at hq
      rw [List.mem_singleton.mp hq]
      exact (f3 b hb).1.2.2.2.2.2 p (List.mem_append_left _ hpn)⟩
  have hotB : HotC (blkP X p s3 H3 scope ce fp) := ⟨p, hot1, List.mem_singleton.mpr rfl⟩
  have loop : codeAny (model X.prog X.w) X.A (.compLoop (.ListComp elt [⟨tg, iter, ifs, 0⟩] scope pos) 0 (.ref it) (.ref D) ce) (compPost (model X.prog X.w) X.A X.xe use Qf (.ref D) s3.heap.objs.size) s4 := by
    refine compLoop_any (fun n s' => ∃ i H', Inv (blkP X p s3 H3 scope ce fp) [] (wipe σ (own.map (·.2))) H' s' ∧ tn i s'.heap ∧ (∀ b ∈ fp, H' b = none) ∧ W i n H') ?_ m0 ⟨0, H3, I4, st4, nfp, w0⟩
    rintro n s5 ⟨i, H5, I5, st5, n5, w5⟩
    rcases turn i n H5 w5 with ⟨stop, qq⟩ | ⟨go, Nx, hNx, step⟩
    · have td := T.done (blkP X p s3 H3 scope ce fp) rfl rfl rfl hotB i [] s5 _ H5 (fun _ _ => False) I5 (stat I5 n5) st5 stop
      refine thnF td fun r s6 ⟨hr, I6⟩ => ?_
      subst hr
      -- back in the def's context
      have I7 : Inv X pins σ H5 s6 := I3.call' (ch := fp) I6.os I6.base I6.hok I6.bare fun b hb => ⟨(f3 b hb).1.2.2.2.1, (f3 b hb).1.2.1, (f3 b hb).1.2.2.2.2.1, (f3 b hb).1.2.2.2.2.2⟩
      have nC : H5 s3.heap.objs.size = none := by
        have z : H5 ce.locals = none := I6.free
        rw [cL] at z
        exact z
      obtain ⟨m, hn, _⟩ := I6.loc
      have hn : s6.heap.Ns ce.locals m := hn
      rw [cL] at hn
      exact hRR D s3.heap.objs.size s6 m H5 I7 qq hn (I3.fpOk (Nat.le_refl _) nC)
    · have ti := T.item (blkP X p s3 H3 scope ce fp) rfl rfl rfl hotB i [] s5 _ H5 (fun _ _ => False) I5 (stat I5 n5) st5 go
      refine thnF ti fun r s6 ⟨u, hr, h6⟩ => ?_
      subst hr
      refine thnF h6 fun _ s7 ⟨x, H7, I7, r7, y7, st7, n7⟩ => ?_
      have I7' := I7.pinned (stat I7 n7) (T.obj _ _ st7)
      refine thnF (pg.run _ s7 _ H7 x u _ I7' r7 (step x H7 y7)) fun _ s8 ⟨σ8, H8, I8, hw8, q8⟩ => ?_
      refine thnF (pt.run _ s8 σ8 H8 _ I8 q8) fun b s9 ⟨H9, I9, q9⟩ => ?_
      -- the turn's end
      have fin : ∀ {s' : Shared} {H' : Hp}, Inv (blkP X p s3 H3 scope ce fp) ([] ++ pinsAt fp s7.heap) σ8 H' s' → Nx H' → ∃ m, m < n ∧ ∃ i H', Inv (blkP X p s3 H3 scope ce fp) [] (wipe σ (own.map (·.2))) H' s' ∧ tn i s'.heap ∧ (∀ b ∈ fp, H' b = none) ∧ W i m H' := fun {s' H'} I' nx => by
        obtain ⟨m', hm, w'⟩ := hNx H' nx
        have pin' : ∀ b ∈ fp, ∀ o, s7.heap.get? b = some o → s'.heap.get? b = some o ∧ H' b = none := fun b hb o e =>
          let z := I'.pin (b, o) (List.mem_append_right _ (List.mem_append_right _ (mem_pinsAt hb e)))
          ⟨z.1, z.2.1⟩
        have hl : (wipe σ (own.map (·.2))).length = σ8.length := by rw [← hw8, wipe_length]
        refine ⟨m', hm, i + 1, H', (I'.unpinned (pins := [])).weak hl (fun j v e => ?_), T.keep _ _ _ st7 fun b hb o e => (pin' b hb o e).1, fun b hb => ?_, w'⟩
        · rw [← hw8] at e
          exact (wipe_some e).1
        · obtain ⟨o, e, _⟩ := T.obj _ _ st7 b hb
          exact (pin' b hb o e).2
      cases b with
      | false =>
        simp only [Bool.false_eq_true, if_false] at q9 ⊢
        exact fin I9 q9
      | true =>
        simp only [if_true] at q9 ⊢
        refine thnF (pe.run _ s9 σ8 H9 _ I9 q9) fun z s10 ⟨yv, H10, I10, r10, acc, hD10, hz10, nx⟩ => ?_
        exact app_ok (X := blkP X p s3 H3 scope ce fp) I10 hD10 hz10 r10 fun s11 I11 => fin I11 nx
  exact codeAny_compStart_list loop (T.self X.A 0 _ _ _ st4 loop)
theorem pe_lcH {elt tg iter : Expr} {ifs : List Expr} {scope : Scope} {own : List (Str × Nat)} {pos : Pos} {wi : TI} {g : TG} {tt : TT} {te : TE} (hc : HotC X) (hN : X.N.Nodup) (hi : PIH X tg iter wi) (ok : BlkOk X.N X.env.scope scope own)
    (hg : ∀ (p : Addr × Obj) (s : Shared) (H : Hp) (C : Addr) (cl : List (Str × Addr)) (fp : List Addr), HotC (blkP X p s H scope (compEnvC scope cl C X.env) fp) → PG (blkP X p s H scope (compEnvC scope cl C X.env) fp) tg g) (ht : ∀ (p : Addr × Obj) (s : Shared) (H : Hp) (C : Addr) (cl : List (Str × Addr)) (fp : List Addr), HotC (blkP X p s H scope (compEnvC scope cl C X.env) fp) → PTs (blkP X p s H scope (compEnvC scope cl C X.env) fp) ifs tt)
    (he : ∀ (p : Addr × Obj) (s : Shared) (H : Hp) (C : Addr) (cl : List (Str × Addr)) (fp : List Addr), HotC (blkP X p s H scope (compEnvC scope cl C X.env) fp) → PE (blkP X p s H scope (compEnvC scope cl C X.env) fp) elt te) (hs : ∀ x, foldedSetIterable iter X.env x = pure x := by intro _; rfl) :
    PE X (.ListComp elt [⟨tg, iter, ifs, 0⟩] scope pos) (tLc wi g tt te (own.map (·.2))) := by
  refine ⟨fun pins s σ H Q I h => ?_⟩
  rw [eval_ListComp]
  refine lc_coreH hc hN I hi ok hg ht he hs h fun D C s' m H' I' q hn f => ⟨m, hn, fun h'' sb => ?_⟩
  obtain ⟨f0, f1, f2, f3, f4, f5⟩ := f
  exact ⟨.ref D, H', I'.turned (t' := s'.toks) (fun b o hb e => (sb.2 b hb).trans e) f0 f1 f3 f4 f5, rfl, q⟩
end
end L2H

/-! enumerate over a list where an exception is handled; its tuples are known whole -/
namespace L2H
open PySem PySem.Spec PyProof.Rows L2 HotX F
theorem turn_enumHN {P : Program} {w : World} {K : PySem.W.Frag} {elts : List Expr} {kk : Nat} {tpos : Pos} (a e it : Addr) :
    TurnH P w K (.Tuple elts kk tpos) (IteN K a) [e, it] e (fun i h => (∃ old, IsEnum h e it ((i : Nat) : Int) old) ∧ h.IsListIter it a i ∧ e ≠ it) where
  mem := (turn_enum (P := P) (w := w) (K := K) (elts := elts) (kk := kk) (tpos := tpos) a e it).mem
  obj := (turn_enum (P := P) (w := w) (K := K) (elts := elts) (kk := kk) (tpos := tpos) a e it).obj
  keep := (turn_enum (P := P) (w := w) (K := K) (elts := elts) (kk := kk) (tpos := tpos) a e it).keep
  item := by
    intro X hP hw hK hc i pins s σ H E I hf st hg
    subst hP hw hK
    obtain ⟨⟨old, he⟩, hit, hne⟩ := st
    obtain ⟨xs, x, hq, hx⟩ := hg
    obtain ⟨its, rv, p, hz⟩ := I.list hq
    obtain ⟨u, hu, ru⟩ := rv.get hx
    have hel : e < s.heap.objs.size := Heap.lt_size he
    have hil : it < s.heap.objs.size := by obtain ⟨_, q, _⟩ := hit; exact Heap.lt_size q
    refine wpAny_pyNext_enum_item he hit p.isList (x := u) (by simpa using hu) hne fun h' ho hit' hT hsz hk => ?_
    refine ⟨_, rfl, wpAny_letOwnedTupleGo_enum (s := { s with heap := h', toks := s.toks + 1 }) ho fun h'' he' sb => ?_⟩
    have hT2 : h''.get? s.heap.objs.size = some (tupO [.int i s.toks, u]) := (sb.2 _ (Nat.ne_of_gt hel)).trans hT
    have new : ObjOk X.prog X.w (upd H s.heap.objs.size (.frz (tupO [.int i s.toks, u]) (.tup [.int (i : Nat), x]))) h'' s.heap.objs.size (.frz (tupO [.int i s.toks, u]) (.tup [.int (i : Nat), x])) :=
      ⟨hT2, by show 2 ≤ sizeLine; decide, [.int i s.toks, u], .cons ⟨_, rfl⟩ (.cons ru .nil), ⟨_, hT2, rfl, _, rfl⟩⟩
    have I1 : Inv X pins σ (upd H s.heap.objs.size (.frz (tupO [.int i s.toks, u]) (.tup [.int (i : Nat), x]))) { s with heap := h'', toks := s.toks + 1 } :=
      I.turnedNew (ch := [e, it]) (fun b ob hb q => (sb.2 b (fun z => hb (by simp [z]))).trans (hk b ob (fun z => hb (by simp [z])) (fun z => hb (by simp [z])) q)) hf (Nat.le_refl _) new
    refine ⟨.ref s.heap.objs.size, _, I1, rfl, ⟨x, ⟨_, _, rfl, I.hok.fresh (Nat.le_refl _), rfl, rfl⟩, fun ys hy => by rw [I.list_inj hy hq]; exact hx⟩, ⟨⟨u, ?_⟩, hit'.at fun o q => (sb.2 it (Ne.symm hne)).trans q, hne⟩, fun b hb => ?_⟩
    · have e1 : ((i + 1 : Nat) : Int) = (i : Int) + 1 := by omega
      rw [e1]; exact he'
    · have hb' : b < s.heap.objs.size := by
        have e' : b = e ∨ b = it := by simpa using hb
        rcases e' with z | z
        · rw [z]; exact hel
        · rw [z]; exact hil
      rw [upd_ne (Nat.ne_of_lt hb')]
      exact (hf b hb).1
  done := (turn_enumH (P := P) (w := w) (K := K) (elts := elts) (kk := kk) (tpos := tpos) a e it).done
  self := (turn_enum (P := P) (w := w) (K := K) (elts := elts) (kk := kk) (tpos := tpos) a e it).self
theorem pi_enumHN {X : Cx} {e : Expr} {ta : TA} {p pos tpos : Pos} {elts : List Expr} {kk : Nat} (hg : Gl X "enumerate") (hm : X.mg "enumerate" = none) (ha : PA X [e] ta) (hs : starEach [e] X.env = [(false, eval e X.env)] := by rfl) :
    PIH X (.Tuple elts kk tpos) (.Call (.Name "enumerate" p) [e] [] pos) (iEnumN X.K ta) := by
  refine ⟨fun pins s σ H R I h => ?_⟩
  refine Call_ (ld_blt I hg hm boot_enumerate (PyProof.Rows.callWith_type1 (thn (ha.run pos pins s σ H _ I h) fun us s1 ⟨vs, H1, I1, rV, q1⟩ => ?_) hs rfl))
  obtain ⟨a, xs, ex, hq, q⟩ := q1
  subst ex
  cases rV with
  | cons r rr =>
    cases rr
    cases r
    obtain ⟨its, rv, p', hz⟩ := I1.list hq
    refine call_enumerate_list p'.isList fun h' he hit hsz hk => wpAny_pyIter_enum he ?_
    have I2 : Inv X pins σ H1 { s1 with heap := h' } := I1.kept (t' := s1.toks) hk
    refine ⟨s1.heap.objs.size + 1, [s1.heap.objs.size + 1, s1.heap.objs.size], _, _, H1, rfl, I2, turn_enumHN a (s1.heap.objs.size + 1) s1.heap.objs.size, ⟨⟨.none, he⟩, hit, Nat.succ_ne_self _⟩, fun b hb => ?_, q⟩
    have e' : b = s1.heap.objs.size + 1 ∨ b = s1.heap.objs.size := by simpa using hb
    have hle : s1.heap.objs.size ≤ b := by
      rcases e' with z | z
      · rw [z]; exact Nat.le_add_right _ _
      · rw [z]; exact Nat.le_refl _
    exact I1.fpOk hle (I1.hok.fresh hle)
/-- name = [..] on one line, the name a local -/
theorem ps_setLcH {X : Cx} {i : Nat} {y : Str} {py : Pos} {elt tg iter : Expr} {ifs : List Expr} {scope : Scope} {own : List (Str × Nat)} {pos spos : Pos} {wi : TI} {g : TG} {tt : TT} {te : TE} (hc : HotC X) (hN : X.N.Nodup) (hy : X.N[i]? = some y) (hyl : X.env.scope.names.lookup y = some .local)
    (hsw : swapsWith (.ListComp elt [⟨tg, iter, ifs, 0⟩] scope pos) (some (.Name y py)) spos.line X.env = pure true) (hi : PIH X tg iter wi) (ok : BlkOk X.N X.env.scope scope own)
    (hg : ∀ (p : Addr × Obj) (s : Shared) (H : Hp) (C : Addr) (cl : List (Str × Addr)) (fp : List Addr), HotC (blkP X p s H scope (compEnvC scope cl C X.env) fp) → PG (blkP X p s H scope (compEnvC scope cl C X.env) fp) tg g) (ht : ∀ (p : Addr × Obj) (s : Shared) (H : Hp) (C : Addr) (cl : List (Str × Addr)) (fp : List Addr), HotC (blkP X p s H scope (compEnvC scope cl C X.env) fp) → PTs (blkP X p s H scope (compEnvC scope cl C X.env) fp) ifs tt)
    (he : ∀ (p : Addr × Obj) (s : Shared) (H : Hp) (C : Addr) (cl : List (Str × Addr)) (fp : List Addr), HotC (blkP X p s H scope (compEnvC scope cl C X.env) fp) → PE (blkP X p s H scope (compEnvC scope cl C X.env) fp) elt te) (hs : ∀ x, foldedSetIterable iter X.env x = pure x := by intro _; rfl) :
    PS X (.Assign [.Name y py] (.ListComp elt [⟨tg, iter, ifs, 0⟩] scope pos) spos) (tAsg (tLc wi g tt te (own.map (·.2))) (gName i)) := by
  refine ⟨fun pins s σ H D I h => ?_⟩
  rw [exec_Assign_Name_used _ _ _ _ hsw]
  refine wpAny_bind (wpAny_standAt (wpAny_bind ?_))
  show wpAny _ X.A (do let _ ← comprehension (.ListComp elt [⟨tg, iter, ifs, 0⟩] scope pos) scope X.env (firstIterPos [⟨tg, iter, ifs, 0⟩] pos) (newList []) false (eval iter X.env) (some (assign (.Name y py) X.env))) _ _ s
  have h : tLc wi g tt te (own.map (·.2)) σ H (fun x H1 => gName i x σ H1 D.nx) := h
  refine wpAny_bind (thn (lc_coreH (Qf := fun _ s' => SP X pins D .next s') hc hN I hi ok hg ht he hs h fun L C s' m H' I' q hn f => ?_) fun _ s' hq => wpAny_pure (wpAny_pure hq))
  show wpAny _ _ (assign (.Name y py) X.env (.ref L)) _ _ _
  refine wpAny_assign_Name (store_ok2 (v := V.ref L) I' hN hy (.inl hyl) rfl (fun s2 I2 ⟨a, sb, ha⟩ => ?_) (.inr hyl))
  obtain ⟨f0, f1, f2, f3, f4, f5⟩ := f
  have haC : C ≠ a := by
    rcases ha with z | z
    · rw [z]; exact f1
    · exact fun e => f4 y a z e.symm
  refine ⟨m, hn.sameBut sb haC, fun h3 sb3 => ?_⟩
  exact ⟨_, H', I2.turned (t' := s2.toks) (fun b o hb e => (sb3.2 b hb).trans e) f0 f1 f3 f4 f5, q⟩
end L2H

/-! comprehensions over enumerate in a suite -/
namespace F
open PySem PySem.Spec PyProof.Rows L2 Evl L2H
/-- the suite of a clause is hot -/
theorem hot_suite {X : Cx} {a : Addr} {oe : Obj} {cls : Value} {d : Option Addr} {pn : List (Addr × Obj)} (hz : L2N.Zn cls d oe) (hf : ∃ vs, oe.data = .fields vs) : HotC (X.suite a ((a, oe) :: pn)) := by
  obtain ⟨vs, e⟩ := hf
  exact ⟨(a, oe), ⟨rfl, vs, e, hz.2.2 vs e⟩, List.mem_cons_self⟩
theorem tags_nil {Z : Sx} : tagsV Z [] [] := True.intro
theorem tags_cons {Z : Sx} {t : Tag} {c : Value} {ts : List Tag} {cs : List Value} (h : tagV Z t = some c) (r : tagsV Z ts cs) : tagsV Z (t :: ts) (c :: cs) := ⟨h, r⟩
structure JIH (X : Cx) (z : ZT) (tg e : Expr) (f : XA) : Prop where
  run : ∀ (B : Wd) (E : Exn → Loc → Cells → Prop), Tkz z X (wx (sx X) z B E) → PIH X tg e (tIx (sx X) z B f E)
section
variable {X : Cx} {z : ZT} {tg e a b : Expr} {fe fa fb : XE} {p pos : Pos}
theorem pih_im {t t' : TI} (h : PIH X tg e t) (k : ∀ σ H R, t' σ H R → t σ H R) : PIH X tg e t' := ⟨fun pins s σ H Q I q => h.run pins s σ H Q I (k _ _ _ q)⟩
theorem ji_enuH {elts : List Expr} {kk : Nat} {tpos : Pos} (hg : Gl X "enumerate") (hm : X.mg "enumerate" = none) (h : JE X z e fe) (hs : starEach [e] X.env = [(false, eval e X.env)] := by rfl) : JIH X z (.Tuple elts kk tpos) (.Call (.Name "enumerate" p) [e] [] pos) (iEnu fe) := ⟨fun B Er tk => pih_im (pi_enumHN hg hm ((ja_cons h ja_nil hs).run B Er tk) hs) fun σ H R ⟨W, cs, l, s, lr, w⟩ => by
  refine ⟨W, cs, l, s, lr, wp_bd.mpr (wp_imp (wp_bd.mp w) (fun d cs1 w1 => ?_) fun _ _ h => h)⟩
  obtain ⟨ds, hr, k⟩ := wp_rd.mp w1
  intro W1 vs H1 le1 o1 s1 r1
  cases r1 with
  | cons r1 r2 =>
    cases r2
    cases r1 with
    | lst h1 r1 => cases hr; exact ⟨_, _, rfl, sq_of (s1.g _ _ h1), k W1 _ H1 le1 o1 s1 (walks_e (sq_of h1) r1)⟩
    | wls h1 r1 => cases hr; exact ⟨_, _, rfl, ex_l s1.g h1, k W1 _ H1 le1 o1 s1 (walks_e h1 r1)⟩
    | _ => cases hr⟩
theorem jg_tupH {tgs : List Expr} {gs : XGs} {n kk : Nat} {ts : List Nat} (hc : HotC X) (h : JGs X z tgs ts gs) (hn : (assignEach tgs X.env).length = n := by rfl) (hst : (assignEach tgs X.env).findIdx? (·.1) = none := by rfl) : JG X z (.Tuple tgs kk pos) ts (gT n gs) := ⟨fun B => pg_im (pg_tupH hc (h.run B) hn hst) fun v σ H R ⟨W, cs, l, d, l', s, lr, r, e, k⟩ => by
  unfold gT at e
  split at e
  · rename_i ds
    split at e
    · rename_i hl
      cases r with
      | tup h1 r1 => exact ⟨_, _, rfl, ex_t s.g h1, by rw [r1.length]; exact hl, W, cs, l, ds, l', s, lr, r1, e, k⟩
    · cases e
  · cases e⟩
end
section
variable {X : Cx} {z : ZT} {elt tg iter : Expr} {ifs : List Expr} {scope : Scope} {own : List (Str × Nat)} {pos : Pos} {f : XA} {g : XG} {t : XB} {e : XE} {ts : List Nat}
theorem je_lcH (hc : HotC X) (hN : X.N.Nodup) (hi : JIH X z tg iter f) (ok : BlkOk X.N X.env.scope scope own)
    (hg : ∀ (p : Addr × Obj) (s : Shared) (H : Hp) (C : Addr) (cl : List (Str × Addr)) (fp : List Addr), HotC (blkP X p s H scope (compEnvC scope cl C X.env) fp) → JG (blkP X p s H scope (compEnvC scope cl C X.env) fp) z tg ts g)
    (ht : ∀ (p : Addr × Obj) (s : Shared) (H : Hp) (C : Addr) (cl : List (Str × Addr)) (fp : List Addr), HotC (blkP X p s H scope (compEnvC scope cl C X.env) fp) → JTs (blkP X p s H scope (compEnvC scope cl C X.env) fp) z ifs t)
    (he : ∀ (p : Addr × Obj) (s : Shared) (H : Hp) (C : Addr) (cl : List (Str × Addr)) (fp : List Addr), HotC (blkP X p s H scope (compEnvC scope cl C X.env) fp) → JE (blkP X p s H scope (compEnvC scope cl C X.env) fp) z elt e)
    (hv : ∀ t ∈ ts, t ∈ own.map (·.2) := by decide) (hs : ∀ x, foldedSetIterable iter X.env x = pure x := by intro _; rfl) : JE X z (.ListComp elt [⟨tg, iter, ifs, 0⟩] scope pos) (xLc f g t e (own.map (·.2))) :=
  ⟨fun B Er tk => pe_imp (pe_lcH hc hN (hi.run B Er tk) ok (fun p s H C cl fp hh => (hg p s H C cl fp hh).run B) (fun p s H C cl fp hh => (ht p s H C cl fp hh).run B _ takes_no) (fun p s H C cl fp hh => (he p s H C cl fp hh).run B _ takes_no) hs) fun σ H Q h => lc_read (X := X) hv h⟩
theorem js_setLcH {i : Nat} {y : Str} {py spos : Pos} (hc : HotC X) (hN : X.N.Nodup) (hy : X.N[i]? = some y) (hyl : X.env.scope.names.lookup y = some .local)
    (hsw : swapsWith (.ListComp elt [⟨tg, iter, ifs, 0⟩] scope pos) (some (.Name y py)) spos.line X.env = pure true) (hi : JIH X z tg iter f) (ok : BlkOk X.N X.env.scope scope own)
    (hg : ∀ (p : Addr × Obj) (s : Shared) (H : Hp) (C : Addr) (cl : List (Str × Addr)) (fp : List Addr), HotC (blkP X p s H scope (compEnvC scope cl C X.env) fp) → JG (blkP X p s H scope (compEnvC scope cl C X.env) fp) z tg ts g)
    (ht : ∀ (p : Addr × Obj) (s : Shared) (H : Hp) (C : Addr) (cl : List (Str × Addr)) (fp : List Addr), HotC (blkP X p s H scope (compEnvC scope cl C X.env) fp) → JTs (blkP X p s H scope (compEnvC scope cl C X.env) fp) z ifs t)
    (he : ∀ (p : Addr × Obj) (s : Shared) (H : Hp) (C : Addr) (cl : List (Str × Addr)) (fp : List Addr), HotC (blkP X p s H scope (compEnvC scope cl C X.env) fp) → JE (blkP X p s H scope (compEnvC scope cl C X.env) fp) z elt e)
    (hv : ∀ t ∈ ts, t ∈ own.map (·.2) := by decide) (hs : ∀ x, foldedSetIterable iter X.env x = pure x := by intro _; rfl) : JS X z (.Assign [.Name y py] (.ListComp elt [⟨tg, iter, ifs, 0⟩] scope pos) spos) (sSet i (xLc f g t e (own.map (·.2)))) :=
  ⟨fun B Er tk => ps_imp (ps_setLcH hc hN hy hyl hsw (hi.run B Er tk) ok (fun p s H C cl fp hh => (hg p s H C cl fp hh).run B) (fun p s H C cl fp hh => (ht p s H C cl fp hh).run B _ takes_no) (fun p s H C cl fp hh => (he p s H C cl fp hh).run B _ takes_no) hs) fun D σ H ⟨W, cs, l, s, lr, w⟩ =>
    lc_read (X := X) hv ⟨W, cs, l, s, lr, wp_imp (wpS_onE.mp w) (fun d cs1 w1 W1 v1 H1 le1 o1 s1 r1 => w1 W1 _ H1 le1 s1 ((lr.mono le1 o1).set r1)) fun _ _ h => h⟩⟩
end
end F

namespace F
open PySem PySem.Spec PyProof.Rows L2 SX He
def top (i : Nat) : Stmt := PySem.Challenge.pw_erasedtrails_k33_errors.main.body.getD i (.Pass ⟨0, 0, 0, 0⟩)
def tb : Tb := { cis := [], isi := (([(.c "BadName", .b "ValueError", true), (.c "BadName", .b "OverflowError", false), (.c "BadName", .b "LookupError", false), (.c "BadName", .b "RuntimeError", false), (.c "BadName", .c "BadName", true), (.c "BadName", .c "Twice", false), (.c "BadName", .c "BadValue", false), (.c "BadName", .c "BadStep", false), (.c "BadName", .c "BadErasing", false), (.c "BadName", .c "BadLine", false), (.c "BadName", .c "BadEvent", false), (.c "BadName", .c "BadPeople", false), (.c "BadName", .c "BadPattern", false), (.c "BadName", .c "BadState", false), (.c "BadName", .c "BadRuns", false), (.c "BadName", .c "BadText", false), (.c "BadName", .c "BadCommand", false), (.c "BadName", .c "NoStore", false), (.c "BadName", .c "NoPart", false), (.c "BadName", .c "NoHandler", false), (.c "BadName", .c "NoRow", false), (.c "BadName", .c "NotThere", false), (.c "BadName", .c "NotReached", false), (.c "BadName", .c "TooMany", false), (.c "BadName", .c "NotAllowed", false), (.c "BadName", .c "Refused", false), (.c "BadName", .c "Erased", false), (.c "Twice", .b "ValueError", true), (.c "Twice", .b "OverflowError", false), (.c "Twice", .b "LookupError", false)] : List (Tag × Tag × Bool)) ++ ([(.c "Twice", .b "RuntimeError", false), (.c "Twice", .c "BadName", false), (.c "Twice", .c "Twice", true), (.c "Twice", .c "BadValue", false), (.c "Twice", .c "BadStep", false), (.c "Twice", .c "BadErasing", false), (.c "Twice", .c "BadLine", false), (.c "Twice", .c "BadEvent", false), (.c "Twice", .c "BadPeople", false), (.c "Twice", .c "BadPattern", false), (.c "Twice", .c "BadState", false), (.c "Twice", .c "BadRuns", false), (.c "Twice", .c "BadText", false), (.c "Twice", .c "BadCommand", false), (.c "Twice", .c "NoStore", false), (.c "Twice", .c "NoPart", false), (.c "Twice", .c "NoHandler", false), (.c "Twice", .c "NoRow", false), (.c "Twice", .c "NotThere", false), (.c "Twice", .c "NotReached", false), (.c "Twice", .c "TooMany", false), (.c "Twice", .c "NotAllowed", false), (.c "Twice", .c "Refused", false), (.c "Twice", .c "Erased", false), (.c "BadValue", .b "ValueError", true), (.c "BadValue", .b "OverflowError", false), (.c "BadValue", .b "LookupError", false), (.c "BadValue", .b "RuntimeError", false), (.c "BadValue", .c "BadName", false), (.c "BadValue", .c "Twice", false)] : List (Tag × Tag × Bool)) ++ ([(.c "BadValue", .c "BadValue", true), (.c "BadValue", .c "BadStep", false), (.c "BadValue", .c "BadErasing", false), (.c "BadValue", .c "BadLine", false), (.c "BadValue", .c "BadEvent", false), (.c "BadValue", .c "BadPeople", false), (.c "BadValue", .c "BadPattern", false), (.c "BadValue", .c "BadState", false), (.c "BadValue", .c "BadRuns", false), (.c "BadValue", .c "BadText", false), (.c "BadValue", .c "BadCommand", false), (.c "BadValue", .c "NoStore", false), (.c "BadValue", .c "NoPart", false), (.c "BadValue", .c "NoHandler", false), (.c "BadValue", .c "NoRow", false), (.c "BadValue", .c "NotThere", false), (.c "BadValue", .c "NotReached", false), (.c "BadValue", .c "TooMany", false), (.c "BadValue", .c "NotAllowed", false), (.c "BadValue", .c "Refused", false), (.c "BadValue", .c "Erased", false), (.c "BadStep", .b "ValueError", true), (.c "BadStep", .b "OverflowError", false), (.c "BadStep", .b "LookupError", false), (.c "BadStep", .b "RuntimeError", false), (.c "BadStep", .c "BadName", false), (.c "BadStep", .c "Twice", false), (.c "BadStep", .c "BadValue", false), (.c "BadStep", .c "BadStep", true), (.c "BadStep", .c "BadErasing", false)] : List (Tag × Tag × Bool)) ++ ([(.c "BadStep", .c "BadLine", false), (.c "BadStep", .c "BadEvent", false), (.c "BadStep", .c "BadPeople", false), (.c "BadStep", .c "BadPattern", false), (.c "BadStep", .c "BadState", false), (.c "BadStep", .c "BadRuns", false), (.c "BadStep", .c "BadText", false), (.c "BadStep", .c "BadCommand", false), (.c "BadStep", .c "NoStore", false), (.c "BadStep", .c "NoPart", false), (.c "BadStep", .c "NoHandler", false), (.c "BadStep", .c "NoRow", false), (.c "BadStep", .c "NotThere", false), (.c "BadStep", .c "NotReached", false), (.c "BadStep", .c "TooMany", false), (.c "BadStep", .c "NotAllowed", false), (.c "BadStep", .c "Refused", false), (.c "BadStep", .c "Erased", false), (.c "BadErasing", .b "ValueError", true), (.c "BadErasing", .b "OverflowError", false), (.c "BadErasing", .b "LookupError", false), (.c "BadErasing", .b "RuntimeError", false), (.c "BadErasing", .c "BadName", false), (.c "BadErasing", .c "Twice", false), (.c "BadErasing", .c "BadValue", false), (.c "BadErasing", .c "BadStep", false), (.c "BadErasing", .c "BadErasing", true), (.c "BadErasing", .c "BadLine", false), (.c "BadErasing", .c "BadEvent", false), (.c "BadErasing", .c "BadPeople", false)] : List (Tag × Tag × Bool)) ++ ([(.c "BadErasing", .c "BadPattern", false), (.c "BadErasing", .c "BadState", false), (.c "BadErasing", .c "BadRuns", false), (.c "BadErasing", .c "BadText", false), (.c "BadErasing", .c "BadCommand", false), (.c "BadErasing", .c "NoStore", false), (.c "BadErasing", .c "NoPart", false), (.c "BadErasing", .c "NoHandler", false), (.c "BadErasing", .c "NoRow", false), (.c "BadErasing", .c "NotThere", false), (.c "BadErasing", .c "NotReached", false), (.c "BadErasing", .c "TooMany", false), (.c "BadErasing", .c "NotAllowed", false), (.c "BadErasing", .c "Refused", false), (.c "BadErasing", .c "Erased", false), (.c "BadLine", .b "ValueError", true), (.c "BadLine", .b "OverflowError", false), (.c "BadLine", .b "LookupError", false), (.c "BadLine", .b "RuntimeError", false), (.c "BadLine", .c "BadName", false), (.c "BadLine", .c "Twice", false), (.c "BadLine", .c "BadValue", false), (.c "BadLine", .c "BadStep", false), (.c "BadLine", .c "BadErasing", false), (.c "BadLine", .c "BadLine", true), (.c "BadLine", .c "BadEvent", false), (.c "BadLine", .c "BadPeople", false), (.c "BadLine", .c "BadPattern", false), (.c "BadLine", .c "BadState", false), (.c "BadLine", .c "BadRuns", false)] : List (Tag × Tag × Bool)) ++ ([(.c "BadLine", .c "BadText", false), (.c "BadLine", .c "BadCommand", false), (.c "BadLine", .c "NoStore", false), (.c "BadLine", .c "NoPart", false), (.c "BadLine", .c "NoHandler", false), (.c "BadLine", .c "NoRow", false), (.c "BadLine", .c "NotThere", false), (.c "BadLine", .c "NotReached", false), (.c "BadLine", .c "TooMany", false), (.c "BadLine", .c "NotAllowed", false), (.c "BadLine", .c "Refused", false), (.c "BadLine", .c "Erased", false), (.c "BadEvent", .b "ValueError", true), (.c "BadEvent", .b "OverflowError", false), (.c "BadEvent", .b "LookupError", false), (.c "BadEvent", .b "RuntimeError", false), (.c "BadEvent", .c "BadName", false), (.c "BadEvent", .c "Twice", false), (.c "BadEvent", .c "BadValue", false), (.c "BadEvent", .c "BadStep", false), (.c "BadEvent", .c "BadErasing", false), (.c "BadEvent", .c "BadLine", false), (.c "BadEvent", .c "BadEvent", true), (.c "BadEvent", .c "BadPeople", false), (.c "BadEvent", .c "BadPattern", false), (.c "BadEvent", .c "BadState", false), (.c "BadEvent", .c "BadRuns", false), (.c "BadEvent", .c "BadText", false), (.c "BadEvent", .c "BadCommand", false), (.c "BadEvent", .c "NoStore", false)] : List (Tag × Tag × Bool)) ++ ([(.c "BadEvent", .c "NoPart", false), (.c "BadEvent", .c "NoHandler", false), (.c "BadEvent", .c "NoRow", false), (.c "BadEvent", .c "NotThere", false), (.c "BadEvent", .c "NotReached", false), (.c "BadEvent", .c "TooMany", false), (.c "BadEvent", .c "NotAllowed", false), (.c "BadEvent", .c "Refused", false), (.c "BadEvent", .c "Erased", false), (.c "BadPeople", .b "ValueError", true), (.c "BadPeople", .b "OverflowError", false), (.c "BadPeople", .b "LookupError", false), (.c "BadPeople", .b "RuntimeError", false), (.c "BadPeople", .c "BadName", false), (.c "BadPeople", .c "Twice", false), (.c "BadPeople", .c "BadValue", false), (.c "BadPeople", .c "BadStep", false), (.c "BadPeople", .c "BadErasing", false), (.c "BadPeople", .c "BadLine", false), (.c "BadPeople", .c "BadEvent", false), (.c "BadPeople", .c "BadPeople", true), (.c "BadPeople", .c "BadPattern", false), (.c "BadPeople", .c "BadState", false), (.c "BadPeople", .c "BadRuns", false), (.c "BadPeople", .c "BadText", false), (.c "BadPeople", .c "BadCommand", false), (.c "BadPeople", .c "NoStore", false), (.c "BadPeople", .c "NoPart", false), (.c "BadPeople", .c "NoHandler", false), (.c "BadPeople", .c "NoRow", false)] : List (Tag × Tag × Bool)) ++ ([(.c "BadPeople", .c "NotThere", false), (.c "BadPeople", .c "NotReached", false), (.c "BadPeople", .c "TooMany", false), (.c "BadPeople", .c "NotAllowed", false), (.c "BadPeople", .c "Refused", false), (.c "BadPeople", .c "Erased", false), (.c "BadPattern", .b "ValueError", true), (.c "BadPattern", .b "OverflowError", false), (.c "BadPattern", .b "LookupError", false), (.c "BadPattern", .b "RuntimeError", false), (.c "BadPattern", .c "BadName", false), (.c "BadPattern", .c "Twice", false), (.c "BadPattern", .c "BadValue", false), (.c "BadPattern", .c "BadStep", false), (.c "BadPattern", .c "BadErasing", false), (.c "BadPattern", .c "BadLine", false), (.c "BadPattern", .c "BadEvent", false), (.c "BadPattern", .c "BadPeople", false), (.c "BadPattern", .c "BadPattern", true), (.c "BadPattern", .c "BadState", false), (.c "BadPattern", .c "BadRuns", false), (.c "BadPattern", .c "BadText", false), (.c "BadPattern", .c "BadCommand", false), (.c "BadPattern", .c "NoStore", false), (.c "BadPattern", .c "NoPart", false), (.c "BadPattern", .c "NoHandler", false), (.c "BadPattern", .c "NoRow", false), (.c "BadPattern", .c "NotThere", false), (.c "BadPattern", .c "NotReached", false), (.c "BadPattern", .c "TooMany", false)] : List (Tag × Tag × Bool)) ++ ([(.c "BadPattern", .c "NotAllowed", false), (.c "BadPattern", .c "Refused", false), (.c "BadPattern", .c "Erased", false), (.c "BadState", .b "ValueError", true), (.c "BadState", .b "OverflowError", false), (.c "BadState", .b "LookupError", false), (.c "BadState", .b "RuntimeError", false), (.c "BadState", .c "BadName", false), (.c "BadState", .c "Twice", false), (.c "BadState", .c "BadValue", false), (.c "BadState", .c "BadStep", false), (.c "BadState", .c "BadErasing", false), (.c "BadState", .c "BadLine", false), (.c "BadState", .c "BadEvent", false), (.c "BadState", .c "BadPeople", false), (.c "BadState", .c "BadPattern", false), (.c "BadState", .c "BadState", true), (.c "BadState", .c "BadRuns", false), (.c "BadState", .c "BadText", false), (.c "BadState", .c "BadCommand", false), (.c "BadState", .c "NoStore", false), (.c "BadState", .c "NoPart", false), (.c "BadState", .c "NoHandler", false), (.c "BadState", .c "NoRow", false), (.c "BadState", .c "NotThere", false), (.c "BadState", .c "NotReached", false), (.c "BadState", .c "TooMany", false), (.c "BadState", .c "NotAllowed", false), (.c "BadState", .c "Refused", false), (.c "BadState", .c "Erased", false)] : List (Tag × Tag × Bool)) ++ ([(.c "BadRuns", .b "ValueError", true), (.c "BadRuns", .b "OverflowError", false), (.c "BadRuns", .b "LookupError", false), (.c "BadRuns", .b "RuntimeError", false), (.c "BadRuns", .c "BadName", false), (.c "BadRuns", .c "Twice", false), (.c "BadRuns", .c "BadValue", false), (.c "BadRuns", .c "BadStep", false), (.c "BadRuns", .c "BadErasing", false), (.c "BadRuns", .c "BadLine", false), (.c "BadRuns", .c "BadEvent", false), (.c "BadRuns", .c "BadPeople", false), (.c "BadRuns", .c "BadPattern", false), (.c "BadRuns", .c "BadState", false), (.c "BadRuns", .c "BadRuns", true), (.c "BadRuns", .c "BadText", false), (.c "BadRuns", .c "BadCommand", false), (.c "BadRuns", .c "NoStore", false), (.c "BadRuns", .c "NoPart", false), (.c "BadRuns", .c "NoHandler", false), (.c "BadRuns", .c "NoRow", false), (.c "BadRuns", .c "NotThere", false), (.c "BadRuns", .c "NotReached", false), (.c "BadRuns", .c "TooMany", false), (.c "BadRuns", .c "NotAllowed", false), (.c "BadRuns", .c "Refused", false), (.c "BadRuns", .c "Erased", false), (.c "BadText", .b "ValueError", true), (.c "BadText", .b "OverflowError", false), (.c "BadText", .b "LookupError", false)] : List (Tag × Tag × Bool)) ++ ([(.c "BadText", .b "RuntimeError", false), (.c "BadText", .c "BadName", false), (.c "BadText", .c "Twice", false), (.c "BadText", .c "BadValue", false), (.c "BadText", .c "BadStep", false), (.c "BadText", .c "BadErasing", false), (.c "BadText", .c "BadLine", false), (.c "BadText", .c "BadEvent", false), (.c "BadText", .c "BadPeople", false), (.c "BadText", .c "BadPattern", false), (.c "BadText", .c "BadState", false), (.c "BadText", .c "BadRuns", false), (.c "BadText", .c "BadText", true), (.c "BadText", .c "BadCommand", false), (.c "BadText", .c "NoStore", false), (.c "BadText", .c "NoPart", false), (.c "BadText", .c "NoHandler", false), (.c "BadText", .c "NoRow", false), (.c "BadText", .c "NotThere", false), (.c "BadText", .c "NotReached", false), (.c "BadText", .c "TooMany", false), (.c "BadText", .c "NotAllowed", false), (.c "BadText", .c "Refused", false), (.c "BadText", .c "Erased", false), (.c "BadCommand", .b "ValueError", true), (.c "BadCommand", .b "OverflowError", false), (.c "BadCommand", .b "LookupError", false), (.c "BadCommand", .b "RuntimeError", false), (.c "BadCommand", .c "BadName", false), (.c "BadCommand", .c "Twice", false)] : List (Tag × Tag × Bool)) ++ ([(.c "BadCommand", .c "BadValue", false), (.c "BadCommand", .c "BadStep", false), (.c "BadCommand", .c "BadErasing", false), (.c "BadCommand", .c "BadLine", false), (.c "BadCommand", .c "BadEvent", false), (.c "BadCommand", .c "BadPeople", false), (.c "BadCommand", .c "BadPattern", false), (.c "BadCommand", .c "BadState", false), (.c "BadCommand", .c "BadRuns", false), (.c "BadCommand", .c "BadText", false), (.c "BadCommand", .c "BadCommand", true), (.c "BadCommand", .c "NoStore", false), (.c "BadCommand", .c "NoPart", false), (.c "BadCommand", .c "NoHandler", false), (.c "BadCommand", .c "NoRow", false), (.c "BadCommand", .c "NotThere", false), (.c "BadCommand", .c "NotReached", false), (.c "BadCommand", .c "TooMany", false), (.c "BadCommand", .c "NotAllowed", false), (.c "BadCommand", .c "Refused", false), (.c "BadCommand", .c "Erased", false), (.c "NoStore", .b "ValueError", false), (.c "NoStore", .b "OverflowError", false), (.c "NoStore", .b "LookupError", true), (.c "NoStore", .b "RuntimeError", false), (.c "NoStore", .c "BadName", false), (.c "NoStore", .c "Twice", false), (.c "NoStore", .c "BadValue", false), (.c "NoStore", .c "BadStep", false), (.c "NoStore", .c "BadErasing", false)] : List (Tag × Tag × Bool)) ++ ([(.c "NoStore", .c "BadLine", false), (.c "NoStore", .c "BadEvent", false), (.c "NoStore", .c "BadPeople", false), (.c "NoStore", .c "BadPattern", false), (.c "NoStore", .c "BadState", false), (.c "NoStore", .c "BadRuns", false), (.c "NoStore", .c "BadText", false), (.c "NoStore", .c "BadCommand", false), (.c "NoStore", .c "NoStore", true), (.c "NoStore", .c "NoPart", false), (.c "NoStore", .c "NoHandler", false), (.c "NoStore", .c "NoRow", false), (.c "NoStore", .c "NotThere", false), (.c "NoStore", .c "NotReached", false), (.c "NoStore", .c "TooMany", false), (.c "NoStore", .c "NotAllowed", false), (.c "NoStore", .c "Refused", false), (.c "NoStore", .c "Erased", false), (.c "NoPart", .b "ValueError", false), (.c "NoPart", .b "OverflowError", false), (.c "NoPart", .b "LookupError", true), (.c "NoPart", .b "RuntimeError", false), (.c "NoPart", .c "BadName", false), (.c "NoPart", .c "Twice", false), (.c "NoPart", .c "BadValue", false), (.c "NoPart", .c "BadStep", false), (.c "NoPart", .c "BadErasing", false), (.c "NoPart", .c "BadLine", false), (.c "NoPart", .c "BadEvent", false), (.c "NoPart", .c "BadPeople", false)] : List (Tag × Tag × Bool)) ++ ([(.c "NoPart", .c "BadPattern", false), (.c "NoPart", .c "BadState", false), (.c "NoPart", .c "BadRuns", false), (.c "NoPart", .c "BadText", false), (.c "NoPart", .c "BadCommand", false), (.c "NoPart", .c "NoStore", false), (.c "NoPart", .c "NoPart", true), (.c "NoPart", .c "NoHandler", false), (.c "NoPart", .c "NoRow", false), (.c "NoPart", .c "NotThere", false), (.c "NoPart", .c "NotReached", false), (.c "NoPart", .c "TooMany", false), (.c "NoPart", .c "NotAllowed", false), (.c "NoPart", .c "Refused", false), (.c "NoPart", .c "Erased", false), (.c "NoHandler", .b "ValueError", false), (.c "NoHandler", .b "OverflowError", false), (.c "NoHandler", .b "LookupError", true), (.c "NoHandler", .b "RuntimeError", false), (.c "NoHandler", .c "BadName", false), (.c "NoHandler", .c "Twice", false), (.c "NoHandler", .c "BadValue", false), (.c "NoHandler", .c "BadStep", false), (.c "NoHandler", .c "BadErasing", false), (.c "NoHandler", .c "BadLine", false), (.c "NoHandler", .c "BadEvent", false), (.c "NoHandler", .c "BadPeople", false), (.c "NoHandler", .c "BadPattern", false), (.c "NoHandler", .c "BadState", false), (.c "NoHandler", .c "BadRuns", false)] : List (Tag × Tag × Bool)) ++ ([(.c "NoHandler", .c "BadText", false), (.c "NoHandler", .c "BadCommand", false), (.c "NoHandler", .c "NoStore", false), (.c "NoHandler", .c "NoPart", false), (.c "NoHandler", .c "NoHandler", true), (.c "NoHandler", .c "NoRow", false), (.c "NoHandler", .c "NotThere", false), (.c "NoHandler", .c "NotReached", false), (.c "NoHandler", .c "TooMany", false), (.c "NoHandler", .c "NotAllowed", false), (.c "NoHandler", .c "Refused", false), (.c "NoHandler", .c "Erased", false), (.c "NoRow", .b "ValueError", false), (.c "NoRow", .b "OverflowError", false), (.c "NoRow", .b "LookupError", true), (.c "NoRow", .b "RuntimeError", false), (.c "NoRow", .c "BadName", false), (.c "NoRow", .c "Twice", false), (.c "NoRow", .c "BadValue", false), (.c "NoRow", .c "BadStep", false), (.c "NoRow", .c "BadErasing", false), (.c "NoRow", .c "BadLine", false), (.c "NoRow", .c "BadEvent", false), (.c "NoRow", .c "BadPeople", false), (.c "NoRow", .c "BadPattern", false), (.c "NoRow", .c "BadState", false), (.c "NoRow", .c "BadRuns", false), (.c "NoRow", .c "BadText", false), (.c "NoRow", .c "BadCommand", false), (.c "NoRow", .c "NoStore", false)] : List (Tag × Tag × Bool)) ++ ([(.c "NoRow", .c "NoPart", false), (.c "NoRow", .c "NoHandler", false), (.c "NoRow", .c "NoRow", true), (.c "NoRow", .c "NotThere", false), (.c "NoRow", .c "NotReached", false), (.c "NoRow", .c "TooMany", false), (.c "NoRow", .c "NotAllowed", false), (.c "NoRow", .c "Refused", false), (.c "NoRow", .c "Erased", false), (.c "NotThere", .b "ValueError", false), (.c "NotThere", .b "OverflowError", false), (.c "NotThere", .b "LookupError", true), (.c "NotThere", .b "RuntimeError", false), (.c "NotThere", .c "BadName", false), (.c "NotThere", .c "Twice", false), (.c "NotThere", .c "BadValue", false), (.c "NotThere", .c "BadStep", false), (.c "NotThere", .c "BadErasing", false), (.c "NotThere", .c "BadLine", false), (.c "NotThere", .c "BadEvent", false), (.c "NotThere", .c "BadPeople", false), (.c "NotThere", .c "BadPattern", false), (.c "NotThere", .c "BadState", false), (.c "NotThere", .c "BadRuns", false), (.c "NotThere", .c "BadText", false), (.c "NotThere", .c "BadCommand", false), (.c "NotThere", .c "NoStore", false), (.c "NotThere", .c "NoPart", false), (.c "NotThere", .c "NoHandler", false), (.c "NotThere", .c "NoRow", false)] : List (Tag × Tag × Bool)) ++ ([(.c "NotThere", .c "NotThere", true), (.c "NotThere", .c "NotReached", false), (.c "NotThere", .c "TooMany", false), (.c "NotThere", .c "NotAllowed", false), (.c "NotThere", .c "Refused", false), (.c "NotThere", .c "Erased", false), (.c "NotReached", .b "ValueError", false), (.c "NotReached", .b "OverflowError", false), (.c "NotReached", .b "LookupError", true), (.c "NotReached", .b "RuntimeError", false), (.c "NotReached", .c "BadName", false), (.c "NotReached", .c "Twice", false), (.c "NotReached", .c "BadValue", false), (.c "NotReached", .c "BadStep", false), (.c "NotReached", .c "BadErasing", false), (.c "NotReached", .c "BadLine", false), (.c "NotReached", .c "BadEvent", false), (.c "NotReached", .c "BadPeople", false), (.c "NotReached", .c "BadPattern", false), (.c "NotReached", .c "BadState", false), (.c "NotReached", .c "BadRuns", false), (.c "NotReached", .c "BadText", false), (.c "NotReached", .c "BadCommand", false), (.c "NotReached", .c "NoStore", false), (.c "NotReached", .c "NoPart", false), (.c "NotReached", .c "NoHandler", false), (.c "NotReached", .c "NoRow", false), (.c "NotReached", .c "NotThere", false), (.c "NotReached", .c "NotReached", true), (.c "NotReached", .c "TooMany", false)] : List (Tag × Tag × Bool)) ++ ([(.c "NotReached", .c "NotAllowed", false), (.c "NotReached", .c "Refused", false), (.c "NotReached", .c "Erased", false), (.c "TooMany", .b "ValueError", false), (.c "TooMany", .b "OverflowError", true), (.c "TooMany", .b "LookupError", false), (.c "TooMany", .b "RuntimeError", false), (.c "TooMany", .c "BadName", false), (.c "TooMany", .c "Twice", false), (.c "TooMany", .c "BadValue", false), (.c "TooMany", .c "BadStep", false), (.c "TooMany", .c "BadErasing", false), (.c "TooMany", .c "BadLine", false), (.c "TooMany", .c "BadEvent", false), (.c "TooMany", .c "BadPeople", false), (.c "TooMany", .c "BadPattern", false), (.c "TooMany", .c "BadState", false), (.c "TooMany", .c "BadRuns", false), (.c "TooMany", .c "BadText", false), (.c "TooMany", .c "BadCommand", false), (.c "TooMany", .c "NoStore", false), (.c "TooMany", .c "NoPart", false), (.c "TooMany", .c "NoHandler", false), (.c "TooMany", .c "NoRow", false), (.c "TooMany", .c "NotThere", false), (.c "TooMany", .c "NotReached", false), (.c "TooMany", .c "TooMany", true), (.c "TooMany", .c "NotAllowed", false), (.c "TooMany", .c "Refused", false), (.c "TooMany", .c "Erased", false)] : List (Tag × Tag × Bool)) ++ ([(.c "NotAllowed", .b "ValueError", false), (.c "NotAllowed", .b "OverflowError", false), (.c "NotAllowed", .b "LookupError", false), (.c "NotAllowed", .b "RuntimeError", true), (.c "NotAllowed", .c "BadName", false), (.c "NotAllowed", .c "Twice", false), (.c "NotAllowed", .c "BadValue", false), (.c "NotAllowed", .c "BadStep", false), (.c "NotAllowed", .c "BadErasing", false), (.c "NotAllowed", .c "BadLine", false), (.c "NotAllowed", .c "BadEvent", false), (.c "NotAllowed", .c "BadPeople", false), (.c "NotAllowed", .c "BadPattern", false), (.c "NotAllowed", .c "BadState", false), (.c "NotAllowed", .c "BadRuns", false), (.c "NotAllowed", .c "BadText", false), (.c "NotAllowed", .c "BadCommand", false), (.c "NotAllowed", .c "NoStore", false), (.c "NotAllowed", .c "NoPart", false), (.c "NotAllowed", .c "NoHandler", false), (.c "NotAllowed", .c "NoRow", false), (.c "NotAllowed", .c "NotThere", false), (.c "NotAllowed", .c "NotReached", false), (.c "NotAllowed", .c "TooMany", false), (.c "NotAllowed", .c "NotAllowed", true), (.c "NotAllowed", .c "Refused", false), (.c "NotAllowed", .c "Erased", false), (.c "Refused", .b "ValueError", false), (.c "Refused", .b "OverflowError", false), (.c "Refused", .b "LookupError", false)] : List (Tag × Tag × Bool)) ++ ([(.c "Refused", .b "RuntimeError", true), (.c "Refused", .c "BadName", false), (.c "Refused", .c "Twice", false), (.c "Refused", .c "BadValue", false), (.c "Refused", .c "BadStep", false), (.c "Refused", .c "BadErasing", false), (.c "Refused", .c "BadLine", false), (.c "Refused", .c "BadEvent", false), (.c "Refused", .c "BadPeople", false), (.c "Refused", .c "BadPattern", false), (.c "Refused", .c "BadState", false), (.c "Refused", .c "BadRuns", false), (.c "Refused", .c "BadText", false), (.c "Refused", .c "BadCommand", false), (.c "Refused", .c "NoStore", false), (.c "Refused", .c "NoPart", false), (.c "Refused", .c "NoHandler", false), (.c "Refused", .c "NoRow", false), (.c "Refused", .c "NotThere", false), (.c "Refused", .c "NotReached", false), (.c "Refused", .c "TooMany", false), (.c "Refused", .c "NotAllowed", false), (.c "Refused", .c "Refused", true), (.c "Refused", .c "Erased", false), (.c "Erased", .b "ValueError", false), (.c "Erased", .b "OverflowError", false), (.c "Erased", .b "LookupError", false), (.c "Erased", .b "RuntimeError", true), (.c "Erased", .c "BadName", false), (.c "Erased", .c "Twice", false)] : List (Tag × Tag × Bool)) ++ ([(.c "Erased", .c "BadValue", false), (.c "Erased", .c "BadStep", false), (.c "Erased", .c "BadErasing", false), (.c "Erased", .c "BadLine", false), (.c "Erased", .c "BadEvent", false), (.c "Erased", .c "BadPeople", false), (.c "Erased", .c "BadPattern", false), (.c "Erased", .c "BadState", false), (.c "Erased", .c "BadRuns", false), (.c "Erased", .c "BadText", false), (.c "Erased", .c "BadCommand", false), (.c "Erased", .c "NoStore", false), (.c "Erased", .c "NoPart", false), (.c "Erased", .c "NoHandler", false), (.c "Erased", .c "NoRow", false), (.c "Erased", .c "NotThere", false), (.c "Erased", .c "NotReached", false), (.c "Erased", .c "TooMany", false), (.c "Erased", .c "NotAllowed", false), (.c "Erased", .c "Refused", false), (.c "Erased", .c "Erased", true)] : List (Tag × Tag × Bool))), con := [] }
def te : Te := { exc := [("BadName", ["name"]), ("Twice", ["name"]), ("BadValue", ["value"]), ("BadStep", ["handler", "index"]), ("BadErasing", ["index"]), ("BadLine", ["index"]), ("BadEvent", ["event"]), ("BadPeople", ["many"]), ("BadPattern", ["pattern"]), ("BadState", ["index"]), ("BadRuns", ["runs"]), ("BadText", ["line"]), ("BadCommand", ["command"]), ("NoStore", ["store"]), ("NoPart", ["name"]), ("NoHandler", ["handler"]), ("NoRow", ["row"]), ("NotThere", ["person"]), ("NotReached", ["state"]), ("TooMany", ["limit"]), ("NotAllowed", ["store", "action"]), ("Refused", ["handler", "index"]), ("Erased", ["person"])], exm := (([("BadName", .c "BadName", true), ("BadName", .c "Twice", false), ("BadName", .c "NoPart", false), ("BadName", .c "BadValue", false), ("BadName", .c "BadStep", false), ("BadName", .c "Refused", false), ("BadName", .c "BadErasing", false), ("BadName", .c "BadLine", false), ("BadName", .c "BadState", false), ("BadName", .c "BadEvent", false), ("BadName", .c "BadPeople", false), ("BadName", .c "BadPattern", false), ("BadName", .c "BadRuns", false), ("BadName", .c "BadText", false), ("BadName", .c "BadCommand", false), ("BadName", .c "NoStore", false), ("BadName", .c "NoHandler", false), ("BadName", .c "NoRow", false), ("BadName", .c "NotThere", false), ("BadName", .c "Erased", false), ("BadName", .c "NotReached", false), ("BadName", .c "TooMany", false), ("BadName", .c "NotAllowed", false), ("Twice", .c "BadName", false), ("Twice", .c "Twice", true), ("Twice", .c "NoPart", false), ("Twice", .c "BadValue", false), ("Twice", .c "BadStep", false), ("Twice", .c "Refused", false), ("Twice", .c "BadErasing", false)] : List (Str × Tag × Bool)) ++ ([("Twice", .c "BadLine", false), ("Twice", .c "BadState", false), ("Twice", .c "BadEvent", false), ("Twice", .c "BadPeople", false), ("Twice", .c "BadPattern", false), ("Twice", .c "BadRuns", false), ("Twice", .c "BadText", false), ("Twice", .c "BadCommand", false), ("Twice", .c "NoStore", false), ("Twice", .c "NoHandler", false), ("Twice", .c "NoRow", false), ("Twice", .c "NotThere", false), ("Twice", .c "Erased", false), ("Twice", .c "NotReached", false), ("Twice", .c "TooMany", false), ("Twice", .c "NotAllowed", false), ("BadValue", .c "BadName", false), ("BadValue", .c "Twice", false), ("BadValue", .c "NoPart", false), ("BadValue", .c "BadValue", true), ("BadValue", .c "BadStep", false), ("BadValue", .c "Refused", false), ("BadValue", .c "BadErasing", false), ("BadValue", .c "BadLine", false), ("BadValue", .c "BadState", false), ("BadValue", .c "BadEvent", false), ("BadValue", .c "BadPeople", false), ("BadValue", .c "BadPattern", false), ("BadValue", .c "BadRuns", false), ("BadValue", .c "BadText", false)] : List (Str × Tag × Bool)) ++ ([("BadValue", .c "BadCommand", false), ("BadValue", .c "NoStore", false), ("BadValue", .c "NoHandler", false), ("BadValue", .c "NoRow", false), ("BadValue", .c "NotThere", false), ("BadValue", .c "Erased", false), ("BadValue", .c "NotReached", false), ("BadValue", .c "TooMany", false), ("BadValue", .c "NotAllowed", false), ("BadStep", .c "BadName", false), ("BadStep", .c "Twice", false), ("BadStep", .c "NoPart", false), ("BadStep", .c "BadValue", false), ("BadStep", .c "BadStep", true), ("BadStep", .c "Refused", false), ("BadStep", .c "BadErasing", false), ("BadStep", .c "BadLine", false), ("BadStep", .c "BadState", false), ("BadStep", .c "BadEvent", false), ("BadStep", .c "BadPeople", false), ("BadStep", .c "BadPattern", false), ("BadStep", .c "BadRuns", false), ("BadStep", .c "BadText", false), ("BadStep", .c "BadCommand", false), ("BadStep", .c "NoStore", false), ("BadStep", .c "NoHandler", false), ("BadStep", .c "NoRow", false), ("BadStep", .c "NotThere", false), ("BadStep", .c "Erased", false), ("BadStep", .c "NotReached", false)] : List (Str × Tag × Bool)) ++ ([("BadStep", .c "TooMany", false), ("BadStep", .c "NotAllowed", false), ("BadErasing", .c "BadName", false), ("BadErasing", .c "Twice", false), ("BadErasing", .c "NoPart", false), ("BadErasing", .c "BadValue", false), ("BadErasing", .c "BadStep", false), ("BadErasing", .c "Refused", false), ("BadErasing", .c "BadErasing", true), ("BadErasing", .c "BadLine", false), ("BadErasing", .c "BadState", false), ("BadErasing", .c "BadEvent", false), ("BadErasing", .c "BadPeople", false), ("BadErasing", .c "BadPattern", false), ("BadErasing", .c "BadRuns", false), ("BadErasing", .c "BadText", false), ("BadErasing", .c "BadCommand", false), ("BadErasing", .c "NoStore", false), ("BadErasing", .c "NoHandler", false), ("BadErasing", .c "NoRow", false), ("BadErasing", .c "NotThere", false), ("BadErasing", .c "Erased", false), ("BadErasing", .c "NotReached", false), ("BadErasing", .c "TooMany", false), ("BadErasing", .c "NotAllowed", false), ("BadLine", .c "BadName", false), ("BadLine", .c "Twice", false), ("BadLine", .c "NoPart", false), ("BadLine", .c "BadValue", false), ("BadLine", .c "BadStep", false)] : List (Str × Tag × Bool)) ++ ([("BadLine", .c "Refused", false), ("BadLine", .c "BadErasing", false), ("BadLine", .c "BadLine", true), ("BadLine", .c "BadState", false), ("BadLine", .c "BadEvent", false), ("BadLine", .c "BadPeople", false), ("BadLine", .c "BadPattern", false), ("BadLine", .c "BadRuns", false), ("BadLine", .c "BadText", false), ("BadLine", .c "BadCommand", false), ("BadLine", .c "NoStore", false), ("BadLine", .c "NoHandler", false), ("BadLine", .c "NoRow", false), ("BadLine", .c "NotThere", false), ("BadLine", .c "Erased", false), ("BadLine", .c "NotReached", false), ("BadLine", .c "TooMany", false), ("BadLine", .c "NotAllowed", false), ("BadEvent", .c "BadName", false), ("BadEvent", .c "Twice", false), ("BadEvent", .c "NoPart", false), ("BadEvent", .c "BadValue", false), ("BadEvent", .c "BadStep", false), ("BadEvent", .c "Refused", false), ("BadEvent", .c "BadErasing", false), ("BadEvent", .c "BadLine", false), ("BadEvent", .c "BadState", false), ("BadEvent", .c "BadEvent", true), ("BadEvent", .c "BadPeople", false), ("BadEvent", .c "BadPattern", false)] : List (Str × Tag × Bool)) ++ ([("BadEvent", .c "BadRuns", false), ("BadEvent", .c "BadText", false), ("BadEvent", .c "BadCommand", false), ("BadEvent", .c "NoStore", false), ("BadEvent", .c "NoHandler", false), ("BadEvent", .c "NoRow", false), ("BadEvent", .c "NotThere", false), ("BadEvent", .c "Erased", false), ("BadEvent", .c "NotReached", false), ("BadEvent", .c "TooMany", false), ("BadEvent", .c "NotAllowed", false), ("BadPeople", .c "BadName", false), ("BadPeople", .c "Twice", false), ("BadPeople", .c "NoPart", false), ("BadPeople", .c "BadValue", false), ("BadPeople", .c "BadStep", false), ("BadPeople", .c "Refused", false), ("BadPeople", .c "BadErasing", false), ("BadPeople", .c "BadLine", false), ("BadPeople", .c "BadState", false), ("BadPeople", .c "BadEvent", false), ("BadPeople", .c "BadPeople", true), ("BadPeople", .c "BadPattern", false), ("BadPeople", .c "BadRuns", false), ("BadPeople", .c "BadText", false), ("BadPeople", .c "BadCommand", false), ("BadPeople", .c "NoStore", false), ("BadPeople", .c "NoHandler", false), ("BadPeople", .c "NoRow", false), ("BadPeople", .c "NotThere", false)] : List (Str × Tag × Bool)) ++ ([("BadPeople", .c "Erased", false), ("BadPeople", .c "NotReached", false), ("BadPeople", .c "TooMany", false), ("BadPeople", .c "NotAllowed", false), ("BadPattern", .c "BadName", false), ("BadPattern", .c "Twice", false), ("BadPattern", .c "NoPart", false), ("BadPattern", .c "BadValue", false), ("BadPattern", .c "BadStep", false), ("BadPattern", .c "Refused", false), ("BadPattern", .c "BadErasing", false), ("BadPattern", .c "BadLine", false), ("BadPattern", .c "BadState", false), ("BadPattern", .c "BadEvent", false), ("BadPattern", .c "BadPeople", false), ("BadPattern", .c "BadPattern", true), ("BadPattern", .c "BadRuns", false), ("BadPattern", .c "BadText", false), ("BadPattern", .c "BadCommand", false), ("BadPattern", .c "NoStore", false), ("BadPattern", .c "NoHandler", false), ("BadPattern", .c "NoRow", false), ("BadPattern", .c "NotThere", false), ("BadPattern", .c "Erased", false), ("BadPattern", .c "NotReached", false), ("BadPattern", .c "TooMany", false), ("BadPattern", .c "NotAllowed", false), ("BadState", .c "BadName", false), ("BadState", .c "Twice", false), ("BadState", .c "NoPart", false)] : List (Str × Tag × Bool)) ++ ([("BadState", .c "BadValue", false), ("BadState", .c "BadStep", false), ("BadState", .c "Refused", false), ("BadState", .c "BadErasing", false), ("BadState", .c "BadLine", false), ("BadState", .c "BadState", true), ("BadState", .c "BadEvent", false), ("BadState", .c "BadPeople", false), ("BadState", .c "BadPattern", false), ("BadState", .c "BadRuns", false), ("BadState", .c "BadText", false), ("BadState", .c "BadCommand", false), ("BadState", .c "NoStore", false), ("BadState", .c "NoHandler", false), ("BadState", .c "NoRow", false), ("BadState", .c "NotThere", false), ("BadState", .c "Erased", false), ("BadState", .c "NotReached", false), ("BadState", .c "TooMany", false), ("BadState", .c "NotAllowed", false), ("BadRuns", .c "BadName", false), ("BadRuns", .c "Twice", false), ("BadRuns", .c "NoPart", false), ("BadRuns", .c "BadValue", false), ("BadRuns", .c "BadStep", false), ("BadRuns", .c "Refused", false), ("BadRuns", .c "BadErasing", false), ("BadRuns", .c "BadLine", false), ("BadRuns", .c "BadState", false), ("BadRuns", .c "BadEvent", false)] : List (Str × Tag × Bool)) ++ ([("BadRuns", .c "BadPeople", false), ("BadRuns", .c "BadPattern", false), ("BadRuns", .c "BadRuns", true), ("BadRuns", .c "BadText", false), ("BadRuns", .c "BadCommand", false), ("BadRuns", .c "NoStore", false), ("BadRuns", .c "NoHandler", false), ("BadRuns", .c "NoRow", false), ("BadRuns", .c "NotThere", false), ("BadRuns", .c "Erased", false), ("BadRuns", .c "NotReached", false), ("BadRuns", .c "TooMany", false), ("BadRuns", .c "NotAllowed", false), ("BadText", .c "BadName", false), ("BadText", .c "Twice", false), ("BadText", .c "NoPart", false), ("BadText", .c "BadValue", false), ("BadText", .c "BadStep", false), ("BadText", .c "Refused", false), ("BadText", .c "BadErasing", false), ("BadText", .c "BadLine", false), ("BadText", .c "BadState", false), ("BadText", .c "BadEvent", false), ("BadText", .c "BadPeople", false), ("BadText", .c "BadPattern", false), ("BadText", .c "BadRuns", false), ("BadText", .c "BadText", true), ("BadText", .c "BadCommand", false), ("BadText", .c "NoStore", false), ("BadText", .c "NoHandler", false)] : List (Str × Tag × Bool)) ++ ([("BadText", .c "NoRow", false), ("BadText", .c "NotThere", false), ("BadText", .c "Erased", false), ("BadText", .c "NotReached", false), ("BadText", .c "TooMany", false), ("BadText", .c "NotAllowed", false), ("BadCommand", .c "BadName", false), ("BadCommand", .c "Twice", false), ("BadCommand", .c "NoPart", false), ("BadCommand", .c "BadValue", false), ("BadCommand", .c "BadStep", false), ("BadCommand", .c "Refused", false), ("BadCommand", .c "BadErasing", false), ("BadCommand", .c "BadLine", false), ("BadCommand", .c "BadState", false), ("BadCommand", .c "BadEvent", false), ("BadCommand", .c "BadPeople", false), ("BadCommand", .c "BadPattern", false), ("BadCommand", .c "BadRuns", false), ("BadCommand", .c "BadText", false), ("BadCommand", .c "BadCommand", true), ("BadCommand", .c "NoStore", false), ("BadCommand", .c "NoHandler", false), ("BadCommand", .c "NoRow", false), ("BadCommand", .c "NotThere", false), ("BadCommand", .c "Erased", false), ("BadCommand", .c "NotReached", false), ("BadCommand", .c "TooMany", false), ("BadCommand", .c "NotAllowed", false), ("NoStore", .c "BadName", false)] : List (Str × Tag × Bool)) ++ ([("NoStore", .c "Twice", false), ("NoStore", .c "NoPart", false), ("NoStore", .c "BadValue", false), ("NoStore", .c "BadStep", false), ("NoStore", .c "Refused", false), ("NoStore", .c "BadErasing", false), ("NoStore", .c "BadLine", false), ("NoStore", .c "BadState", false), ("NoStore", .c "BadEvent", false), ("NoStore", .c "BadPeople", false), ("NoStore", .c "BadPattern", false), ("NoStore", .c "BadRuns", false), ("NoStore", .c "BadText", false), ("NoStore", .c "BadCommand", false), ("NoStore", .c "NoStore", true), ("NoStore", .c "NoHandler", false), ("NoStore", .c "NoRow", false), ("NoStore", .c "NotThere", false), ("NoStore", .c "Erased", false), ("NoStore", .c "NotReached", false), ("NoStore", .c "TooMany", false), ("NoStore", .c "NotAllowed", false), ("NoPart", .c "BadName", false), ("NoPart", .c "Twice", false), ("NoPart", .c "NoPart", true), ("NoPart", .c "BadValue", false), ("NoPart", .c "BadStep", false), ("NoPart", .c "Refused", false), ("NoPart", .c "BadErasing", false), ("NoPart", .c "BadLine", false)] : List (Str × Tag × Bool)) ++ ([("NoPart", .c "BadState", false), ("NoPart", .c "BadEvent", false), ("NoPart", .c "BadPeople", false), ("NoPart", .c "BadPattern", false), ("NoPart", .c "BadRuns", false), ("NoPart", .c "BadText", false), ("NoPart", .c "BadCommand", false), ("NoPart", .c "NoStore", false), ("NoPart", .c "NoHandler", false), ("NoPart", .c "NoRow", false), ("NoPart", .c "NotThere", false), ("NoPart", .c "Erased", false), ("NoPart", .c "NotReached", false), ("NoPart", .c "TooMany", false), ("NoPart", .c "NotAllowed", false), ("NoHandler", .c "BadName", false), ("NoHandler", .c "Twice", false), ("NoHandler", .c "NoPart", false), ("NoHandler", .c "BadValue", false), ("NoHandler", .c "BadStep", false), ("NoHandler", .c "Refused", false), ("NoHandler", .c "BadErasing", false), ("NoHandler", .c "BadLine", false), ("NoHandler", .c "BadState", false), ("NoHandler", .c "BadEvent", false), ("NoHandler", .c "BadPeople", false), ("NoHandler", .c "BadPattern", false), ("NoHandler", .c "BadRuns", false), ("NoHandler", .c "BadText", false), ("NoHandler", .c "BadCommand", false)] : List (Str × Tag × Bool)) ++ ([("NoHandler", .c "NoStore", false), ("NoHandler", .c "NoHandler", true), ("NoHandler", .c "NoRow", false), ("NoHandler", .c "NotThere", false), ("NoHandler", .c "Erased", false), ("NoHandler", .c "NotReached", false), ("NoHandler", .c "TooMany", false), ("NoHandler", .c "NotAllowed", false), ("NoRow", .c "BadName", false), ("NoRow", .c "Twice", false), ("NoRow", .c "NoPart", false), ("NoRow", .c "BadValue", false), ("NoRow", .c "BadStep", false), ("NoRow", .c "Refused", false), ("NoRow", .c "BadErasing", false), ("NoRow", .c "BadLine", false), ("NoRow", .c "BadState", false), ("NoRow", .c "BadEvent", false), ("NoRow", .c "BadPeople", false), ("NoRow", .c "BadPattern", false), ("NoRow", .c "BadRuns", false), ("NoRow", .c "BadText", false), ("NoRow", .c "BadCommand", false), ("NoRow", .c "NoStore", false), ("NoRow", .c "NoHandler", false), ("NoRow", .c "NoRow", true), ("NoRow", .c "NotThere", false), ("NoRow", .c "Erased", false), ("NoRow", .c "NotReached", false), ("NoRow", .c "TooMany", false)] : List (Str × Tag × Bool)) ++ ([("NoRow", .c "NotAllowed", false), ("NotThere", .c "BadName", false), ("NotThere", .c "Twice", false), ("NotThere", .c "NoPart", false), ("NotThere", .c "BadValue", false), ("NotThere", .c "BadStep", false), ("NotThere", .c "Refused", false), ("NotThere", .c "BadErasing", false), ("NotThere", .c "BadLine", false), ("NotThere", .c "BadState", false), ("NotThere", .c "BadEvent", false), ("NotThere", .c "BadPeople", false), ("NotThere", .c "BadPattern", false), ("NotThere", .c "BadRuns", false), ("NotThere", .c "BadText", false), ("NotThere", .c "BadCommand", false), ("NotThere", .c "NoStore", false), ("NotThere", .c "NoHandler", false), ("NotThere", .c "NoRow", false), ("NotThere", .c "NotThere", true), ("NotThere", .c "Erased", false), ("NotThere", .c "NotReached", false), ("NotThere", .c "TooMany", false), ("NotThere", .c "NotAllowed", false), ("NotReached", .c "BadName", false), ("NotReached", .c "Twice", false), ("NotReached", .c "NoPart", false), ("NotReached", .c "BadValue", false), ("NotReached", .c "BadStep", false), ("NotReached", .c "Refused", false)] : List (Str × Tag × Bool)) ++ ([("NotReached", .c "BadErasing", false), ("NotReached", .c "BadLine", false), ("NotReached", .c "BadState", false), ("NotReached", .c "BadEvent", false), ("NotReached", .c "BadPeople", false), ("NotReached", .c "BadPattern", false), ("NotReached", .c "BadRuns", false), ("NotReached", .c "BadText", false), ("NotReached", .c "BadCommand", false), ("NotReached", .c "NoStore", false), ("NotReached", .c "NoHandler", false), ("NotReached", .c "NoRow", false), ("NotReached", .c "NotThere", false), ("NotReached", .c "Erased", false), ("NotReached", .c "NotReached", true), ("NotReached", .c "TooMany", false), ("NotReached", .c "NotAllowed", false), ("TooMany", .c "BadName", false), ("TooMany", .c "Twice", false), ("TooMany", .c "NoPart", false), ("TooMany", .c "BadValue", false), ("TooMany", .c "BadStep", false), ("TooMany", .c "Refused", false), ("TooMany", .c "BadErasing", false), ("TooMany", .c "BadLine", false), ("TooMany", .c "BadState", false), ("TooMany", .c "BadEvent", false), ("TooMany", .c "BadPeople", false), ("TooMany", .c "BadPattern", false), ("TooMany", .c "BadRuns", false)] : List (Str × Tag × Bool)) ++ ([("TooMany", .c "BadText", false), ("TooMany", .c "BadCommand", false), ("TooMany", .c "NoStore", false), ("TooMany", .c "NoHandler", false), ("TooMany", .c "NoRow", false), ("TooMany", .c "NotThere", false), ("TooMany", .c "Erased", false), ("TooMany", .c "NotReached", false), ("TooMany", .c "TooMany", true), ("TooMany", .c "NotAllowed", false), ("NotAllowed", .c "BadName", false), ("NotAllowed", .c "Twice", false), ("NotAllowed", .c "NoPart", false), ("NotAllowed", .c "BadValue", false), ("NotAllowed", .c "BadStep", false), ("NotAllowed", .c "Refused", false), ("NotAllowed", .c "BadErasing", false), ("NotAllowed", .c "BadLine", false), ("NotAllowed", .c "BadState", false), ("NotAllowed", .c "BadEvent", false), ("NotAllowed", .c "BadPeople", false), ("NotAllowed", .c "BadPattern", false), ("NotAllowed", .c "BadRuns", false), ("NotAllowed", .c "BadText", false), ("NotAllowed", .c "BadCommand", false), ("NotAllowed", .c "NoStore", false), ("NotAllowed", .c "NoHandler", false), ("NotAllowed", .c "NoRow", false), ("NotAllowed", .c "NotThere", false), ("NotAllowed", .c "Erased", false)] : List (Str × Tag × Bool)) ++ ([("NotAllowed", .c "NotReached", false), ("NotAllowed", .c "TooMany", false), ("NotAllowed", .c "NotAllowed", true), ("Refused", .c "BadName", false), ("Refused", .c "Twice", false), ("Refused", .c "NoPart", false), ("Refused", .c "BadValue", false), ("Refused", .c "BadStep", false), ("Refused", .c "Refused", true), ("Refused", .c "BadErasing", false), ("Refused", .c "BadLine", false), ("Refused", .c "BadState", false), ("Refused", .c "BadEvent", false), ("Refused", .c "BadPeople", false), ("Refused", .c "BadPattern", false), ("Refused", .c "BadRuns", false), ("Refused", .c "BadText", false), ("Refused", .c "BadCommand", false), ("Refused", .c "NoStore", false), ("Refused", .c "NoHandler", false), ("Refused", .c "NoRow", false), ("Refused", .c "NotThere", false), ("Refused", .c "Erased", false), ("Refused", .c "NotReached", false), ("Refused", .c "TooMany", false), ("Refused", .c "NotAllowed", false), ("Erased", .c "BadName", false), ("Erased", .c "Twice", false), ("Erased", .c "NoPart", false), ("Erased", .c "BadValue", false)] : List (Str × Tag × Bool)) ++ ([("Erased", .c "BadStep", false), ("Erased", .c "Refused", false), ("Erased", .c "BadErasing", false), ("Erased", .c "BadLine", false), ("Erased", .c "BadState", false), ("Erased", .c "BadEvent", false), ("Erased", .c "BadPeople", false), ("Erased", .c "BadPattern", false), ("Erased", .c "BadRuns", false), ("Erased", .c "BadText", false), ("Erased", .c "BadCommand", false), ("Erased", .c "NoStore", false), ("Erased", .c "NoHandler", false), ("Erased", .c "NoRow", false), ("Erased", .c "NotThere", false), ("Erased", .c "Erased", true), ("Erased", .c "NotReached", false), ("Erased", .c "TooMany", false), ("Erased", .c "NotAllowed", false)] : List (Str × Tag × Bool))) }
def ord : OrT := []
def freeN : List Str := ["int", "len", "abs", "min", "max", "range", "str", "list", "tuple", "bool", "isinstance", "set", "sorted", "all", "any", "enumerate", "repr", "sum", "reversed", "dict", "zip", "ValueError", "OverflowError", "LookupError", "RuntimeError", "super"]
def gloN : List Str := [("_law_bag" : Str), ("_law_draw" : Str), ("_law_of" : Str), ("_law_raised" : Str), ("_law_raised_later" : Str), ("_law_deed" : Str), ("_law_told" : Str), ("_law_kinds" : Str), ("law" : Str), ("BadName" : Str), ("Twice" : Str), ("BadValue" : Str), ("BadStep" : Str), ("BadErasing" : Str), ("BadLine" : Str), ("BadEvent" : Str), ("BadPeople" : Str), ("BadPattern" : Str), ("BadState" : Str), ("BadRuns" : Str), ("BadText" : Str), ("BadCommand" : Str), ("NoStore" : Str), ("NoPart" : Str), ("NoHandler" : Str), ("NoRow" : Str), ("NotThere" : Str), ("NotReached" : Str), ("TooMany" : Str), ("NotAllowed" : Str), ("Refused" : Str), ("Erased" : Str)]
def ntsN : List (Str × Int) := []
def xtsN : List (Str × Str) := []

end F

namespace F
open PySem PySem.Spec PyProof.Rows L2 He E
def dfs : List Df := [
  { ad := fun K => ma K (ga K "BadName") "__init__", name := "__init__", qual := "BadName.__init__", st := inClass (top 1) 0 },
  { ad := fun K => ma K (ga K "Twice") "__init__", name := "__init__", qual := "Twice.__init__", st := inClass (top 2) 0 },
  { ad := fun K => ma K (ga K "BadValue") "__init__", name := "__init__", qual := "BadValue.__init__", st := inClass (top 3) 0 },
  { ad := fun K => ma K (ga K "BadStep") "__init__", name := "__init__", qual := "BadStep.__init__", st := inClass (top 4) 0 },
  { ad := fun K => ma K (ga K "BadErasing") "__init__", name := "__init__", qual := "BadErasing.__init__", st := inClass (top 5) 0 },
  { ad := fun K => ma K (ga K "BadLine") "__init__", name := "__init__", qual := "BadLine.__init__", st := inClass (top 6) 0 },
  { ad := fun K => ma K (ga K "BadEvent") "__init__", name := "__init__", qual := "BadEvent.__init__", st := inClass (top 7) 0 },
  { ad := fun K => ma K (ga K "BadPeople") "__init__", name := "__init__", qual := "BadPeople.__init__", st := inClass (top 8) 0 },
  { ad := fun K => ma K (ga K "BadPattern") "__init__", name := "__init__", qual := "BadPattern.__init__", st := inClass (top 9) 0 },
  { ad := fun K => ma K (ga K "BadState") "__init__", name := "__init__", qual := "BadState.__init__", st := inClass (top 10) 0 },
  { ad := fun K => ma K (ga K "BadRuns") "__init__", name := "__init__", qual := "BadRuns.__init__", st := inClass (top 11) 0 },
  { ad := fun K => ma K (ga K "BadText") "__init__", name := "__init__", qual := "BadText.__init__", st := inClass (top 12) 0 },
  { ad := fun K => ma K (ga K "BadCommand") "__init__", name := "__init__", qual := "BadCommand.__init__", st := inClass (top 13) 0 },
  { ad := fun K => ma K (ga K "NoStore") "__init__", name := "__init__", qual := "NoStore.__init__", st := inClass (top 14) 0 },
  { ad := fun K => ma K (ga K "NoPart") "__init__", name := "__init__", qual := "NoPart.__init__", st := inClass (top 15) 0 },
  { ad := fun K => ma K (ga K "NoHandler") "__init__", name := "__init__", qual := "NoHandler.__init__", st := inClass (top 16) 0 },
  { ad := fun K => ma K (ga K "NoRow") "__init__", name := "__init__", qual := "NoRow.__init__", st := inClass (top 17) 0 },
  { ad := fun K => ma K (ga K "NotThere") "__init__", name := "__init__", qual := "NotThere.__init__", st := inClass (top 18) 0 },
  { ad := fun K => ma K (ga K "NotReached") "__init__", name := "__init__", qual := "NotReached.__init__", st := inClass (top 19) 0 },
  { ad := fun K => ma K (ga K "TooMany") "__init__", name := "__init__", qual := "TooMany.__init__", st := inClass (top 20) 0 },
  { ad := fun K => ma K (ga K "NotAllowed") "__init__", name := "__init__", qual := "NotAllowed.__init__", st := inClass (top 21) 0 },
  { ad := fun K => ma K (ga K "Refused") "__init__", name := "__init__", qual := "Refused.__init__", st := inClass (top 22) 0 },
  { ad := fun K => ma K (ga K "Erased") "__init__", name := "__init__", qual := "Erased.__init__", st := inClass (top 23) 0 },
  { ad := fun K => ga K "_law_bag", name := "_law_bag", qual := "_law_bag", st := top 25 },
  { ad := fun K => ga K "_law_draw", name := "_law_draw", qual := "_law_draw", st := top 26 },
  { ad := fun K => ga K "_law_of", name := "_law_of", qual := "_law_of", st := top 27 },
  { ad := fun K => ga K "_law_raised", name := "_law_raised", qual := "_law_raised", st := top 28 },
  { ad := fun K => ga K "_law_raised_later", name := "_law_raised_later", qual := "_law_raised_later", st := top 29 },
  { ad := fun K => ga K "_law_deed", name := "_law_deed", qual := "_law_deed", st := top 30 },
  { ad := fun K => ga K "_law_told", name := "_law_told", qual := "_law_told", st := top 31 },
  { ad := fun K => ga K "_law_kinds", name := "_law_kinds", qual := "_law_kinds", st := top 32 },
  { ad := fun K => ga K "law", name := "law", qual := "law", st := top 33 }]
def bfs (K : PySem.W.Frag) : List Bool := [fxB K freeN gloN ntsN xtsN, tbB K tb, teB K te, ordB K tb ord, exrB K "BadName" .v ["name"], exrB K "Twice" .v ["name"], exrB K "BadValue" .v ["value"], exrB K "BadStep" .v ["handler", "index"], exrB K "BadErasing" .v ["index"], exrB K "BadLine" .v ["index"], exrB K "BadEvent" .v ["event"], exrB K "BadPeople" .v ["many"], exrB K "BadPattern" .v ["pattern"], exrB K "BadState" .v ["index"], exrB K "BadRuns" .v ["runs"], exrB K "BadText" .v ["line"], exrB K "BadCommand" .v ["command"], exrB K "NoStore" .l ["store"], exrB K "NoPart" .l ["name"], exrB K "NoHandler" .l ["handler"], exrB K "NoRow" .l ["row"], exrB K "NotThere" .l ["person"], exrB K "NotReached" .l ["state"], exrB K "TooMany" .o ["limit"], exrB K "NotAllowed" .r ["store", "action"], exrB K "Refused" .r ["handler", "index"], exrB K "Erased" .r ["person"]]
def exH (K : PySem.W.Frag) : Bool := (bfs K).all id
abbrev Rw : PySem.W.OpenRow := PySem.W.OpenLaw.row PySem.Challenge.rw_erasedtrails_k33_errors
abbrev hkF : PySem.W.Hook := hookB 7 exH dfs
def obF (s : PySem.W.SharedT) : AlE := obsBG 7 exH dfs (HandSHeadRun.getT s)
theorem obF_eq (s : PySem.W.SharedT) : obF s = hkF.obs s.abs := obsBG_eq (HandSHeadRun.getT_eq s)
def looseN : List Str := [("BadName" : Str), ("Twice" : Str), ("BadValue" : Str), ("BadStep" : Str), ("BadErasing" : Str), ("BadLine" : Str), ("BadEvent" : Str), ("BadPeople" : Str), ("BadPattern" : Str), ("BadState" : Str), ("BadRuns" : Str), ("BadText" : Str), ("BadCommand" : Str), ("NoStore" : Str), ("NoPart" : Str), ("NoHandler" : Str), ("NoRow" : Str), ("NotThere" : Str), ("NotReached" : Str), ("TooMany" : Str), ("NotAllowed" : Str), ("Refused" : Str), ("Erased" : Str), ("_law_bag" : Str), ("_law_draw" : Str), ("_law_of" : Str), ("_law_raised" : Str), ("_law_raised_later" : Str), ("_law_deed" : Str), ("_law_told" : Str), ("_law_kinds" : Str), ("__name__" : Str)]
theorem runF (w : World) : HandSHeadRun.RunEq Rw (PySem.W.view Rw.prog [33]) hkF obF 20000 looseN w := by
  intro os
  kernel_rfl
end F

/-! plain lemmas: what the words do -/
namespace F
open PySem L2
section
variable {α β : Type} {cs : Cells} {l : Loc} {Q : D → Cells → Prop} {R : Bool → Cells → Prop} {U : List D → Cells → Prop} {V : Option Int → Cells → Prop} {E : Exn → Cells → Prop} {P : Fl → Cells → Prop} {fa fb fc fo fi fv : XE} {f f2 : XA} {t u : XB} {b c : XS} {i j k : Nat}
theorem wp_iff {m : EM α} {Z Z' : α → Cells → Prop} {E' : Exn → Cells → Prop} (h : ∀ a cs, Z a cs ↔ Z' a cs) (k : ∀ x cs, E x cs ↔ E' x cs) : wp m cs Z E ↔ wp m cs Z' E' := by
  unfold wp
  cases m cs with
  | ok a cs' => exact h a cs'
  | exc x cs' => exact k x cs'
  | no => exact Iff.rfl
theorem w_ite {p : Prop} [Decidable p] {m m' : EM α} {Z : α → Cells → Prop} : wp (if p then m else m') cs Z E ↔ if p then wp m cs Z E else wp m' cs Z E := by split <;> exact Iff.rfl
theorem w_var : wp (xVar i l) cs Q E ↔ (match l[i]? with | some (.val d) => Q d cs | some (.me d) => Q d cs | _ => False) := by
  unfold xVar
  generalize l[i]? = o
  rcases o with _ | s
  · exact Iff.rfl
  · cases s <;> exact Iff.rfl
theorem w_c {d : D} : wp (xC d l) cs Q E ↔ Q d cs := Iff.rfl
theorem w_1 {g : Cells → D → Option D} : wp (x1 g fa l) cs Q E ↔ wp (fa l) cs (fun x cs1 => ∃ r, g cs1 x = some r ∧ Q r cs1) E := by
  unfold x1
  simp only [wp_bd, wp_rd]
theorem w_2 {g : Cells → D → D → Option D} : wp (x2 g fa fb l) cs Q E ↔ wp (fa l) cs (fun x cs1 => wp (fb l) cs1 (fun y cs2 => ∃ r, g cs2 x y = some r ∧ Q r cs2) E) E := by
  unfold x2
  simp only [wp_bd, wp_rd]
theorem w_N {g : Cells → List D → Option D} : wp (xN g f l) cs Q E ↔ wp (f l) cs (fun xs cs1 => ∃ r, g cs1 xs = some r ∧ Q r cs1) E := by
  unfold xN
  simp only [wp_bd, wp_rd]
theorem w_bV : wp (bV fa l) cs R E ↔ wp (fa l) cs (fun d cs1 => ∃ k, d = .bl k ∧ R k cs1) E := by
  unfold bV
  rw [wp_bd]
  constructor
  · exact fun h => wp_imp h (fun d cs1 w => asB_ok w) fun _ _ h => h
  · exact fun h => wp_imp h (fun d cs1 ⟨k, e, w⟩ => by rw [e]; exact w) fun _ _ h => h
theorem w_bNot : wp (bNot t l) cs R E ↔ wp (t l) cs (fun k cs1 => R (!k) cs1) E := by unfold bNot; simp only [wp_bd, wp_rt]
theorem w_bOr : wp (bOr t u l) cs R E ↔ wp (t l) cs (fun k cs1 => if k = true then R true cs1 else wp (u l) cs1 R E) E := by unfold bOr; simp only [wp_bd, w_ite, wp_rt]
theorem w_bAnd : wp (bAnd t u l) cs R E ↔ wp (t l) cs (fun k cs1 => if k = true then wp (u l) cs1 R E else R false cs1) E := by unfold bAnd; simp only [wp_bd, w_ite, wp_rt]
theorem w_xOr : wp (xOr fa fb l) cs Q E ↔ wp (bV fa l) cs (fun k cs1 => if k = true then Q (.bl true) cs1 else wp (fb l) cs1 Q E) E := by unfold xOr; simp only [wp_bd, w_ite, wp_rt]
theorem w_xAnd : wp (xAnd fa fb l) cs Q E ↔ wp (bV fa l) cs (fun k cs1 => if k = true then wp (fb l) cs1 Q E else Q (.bl false) cs1) E := by unfold xAnd; simp only [wp_bd, w_ite, wp_rt]
theorem w_xNot : wp (xNot fa l) cs Q E ↔ wp (bV fa l) cs (fun k cs1 => Q (.bl (!k)) cs1) E := by unfold xNot; simp only [wp_bd, wp_rt]
theorem w_xIf : wp (xIf t fa fb l) cs Q E ↔ wp (t l) cs (fun k cs1 => if k = true then wp (fa l) cs1 Q E else wp (fb l) cs1 Q E) E := by unfold xIf; simp only [wp_bd, w_ite]
theorem w_aNil : wp (aNil l) cs U E ↔ U [] cs := Iff.rfl
theorem w_aCons : wp (aCons fa f l) cs U E ↔ wp (fa l) cs (fun d cs1 => wp (f l) cs1 (fun ds cs2 => U (d :: ds) cs2) E) E := by unfold aCons; simp only [wp_bd, wp_rt]
theorem w_aStar : wp (aStar fa f l) cs U E ↔ wp (fa l) cs (fun d cs1 => ∃ xs, seqOf cs1 d = some xs ∧ wp (f l) cs1 (fun ds cs2 => U (xs ++ ds) cs2) E) E := by unfold aStar; simp only [wp_bd, wp_rt, wp_rd]
theorem w_tup : wp (xTup f l) cs Q E ↔ wp (f l) cs (fun ds cs1 => Q (.tup ds) cs1) E := by unfold xTup; simp only [wp_bd, wp_rt]
theorem w_lst : wp (xLst f l) cs Q E ↔ wp (f l) cs (fun ds cs1 => Q (.lst ds) cs1) E := by unfold xLst; simp only [wp_bd, wp_rt]
theorem w_fit {ds : List D} {Z : Unit → Cells → Prop} : wp (fit ds) cs Z E ↔ ds.length ≤ 1000000 ∧ Z () cs := by
  unfold fit
  split
  · rename_i h; exact ⟨fun z => ⟨h, z⟩, fun z => z.2⟩
  · rename_i h; exact ⟨fun z => z.elim, fun z => absurd z.1 h⟩
theorem w_tupS : wp (xTupS f l) cs Q E ↔ wp (f l) cs (fun ds cs1 => ds.length ≤ 1000000 ∧ Q (.tup ds) cs1) E := by unfold xTupS; simp only [wp_bd, wp_rt, w_fit]
theorem w_lstS : wp (xLstS f l) cs Q E ↔ wp (f l) cs (fun ds cs1 => ds.length ≤ 1000000 ∧ Q (.lst ds) cs1) E := by unfold xLstS; simp only [wp_bd, wp_rt, w_fit]
theorem w_lstC : wp (xLstC f l) cs Q E ↔ wp (f l) cs (fun ds cs1 => Q (.cel cs1.length) (cs1 ++ [.lst ds])) E := by unfold xLstC; simp only [wp_bd, wp_newC]
theorem w_listC : wp (xListC fa l) cs Q E ↔ wp (fa l) cs (fun d cs1 => ∃ xs, seqOf cs1 d = some xs ∧ Q (.cel cs1.length) (cs1 ++ [.lst xs])) E := by unfold xListC; simp only [wp_bd, wp_rd, wp_newC]
theorem w_oNone : wp (oNone l) cs V E ↔ V none cs := Iff.rfl
theorem w_oSome : wp (oSome fa l) cs V E ↔ wp (fa l) cs (fun d cs1 => ∃ k, d = .int k ∧ V (some k) cs1) E := by
  unfold oSome
  rw [wp_bd]
  constructor
  · exact fun h => wp_imp h (fun d cs1 w => asI_ok w) fun _ _ h => h
  · exact fun h => wp_imp h (fun d cs1 ⟨k, e, w⟩ => by rw [e]; exact w) fun _ _ h => h
theorem w_sl {a o : XO} : wp (xSl fa a o l) cs Q E ↔ wp (fa l) cs (fun d cs1 => wp (a l) cs1 (fun x cs2 => wp (o l) cs2 (fun y cs3 => ∃ r, slD d x y cs3 = some r ∧ Q r cs3) E) E) E := by unfold xSl; simp only [wp_bd, wp_rd]
theorem w_join : wp (xJoin fa fb l) cs Q E ↔ wp (fa l) cs (fun d cs1 => ∃ a, d = .str a ∧ wp (fb l) cs1 (fun y cs2 => ∃ r, joinD a y cs2 = some r ∧ Q r cs2) E) E := by
  unfold xJoin
  simp only [wp_bd, wp_rd]
  constructor
  · exact fun h => wp_imp h (fun d cs1 w => asS_ok w) fun _ _ h => h
  · exact fun h => wp_imp h (fun d cs1 ⟨k, e, w⟩ => by rw [e]; exact w) fun _ _ h => h
theorem w_call {F : List D → List D → EM D} : wp (xCall F f f2 l) cs Q E ↔ wp (f l) cs (fun ds cs1 => wp (f2 l) cs1 (fun ks cs2 => wp (F ds ks) cs2 Q E) E) E := by unfold xCall; simp only [wp_bd]
theorem w_chk {F : List D → List D → EM D} {ds ks : List D} {n : Nat} : wp (kChk n F ds ks) cs Q E ↔ (ks.length = n ∧ wp (F ds ks) cs Q E) := by
  unfold kChk
  split
  · rename_i h; exact ⟨fun z => ⟨h, z⟩, fun z => z.2⟩
  · rename_i h; exact ⟨fun z => z.elim, fun z => absurd z.1 h⟩
theorem w_nox {m : EM α} {Z : α → Cells → Prop} : wp (nox m) cs Z E ↔ wp m cs Z fun _ _ => False := by
  unfold wp nox
  cases m cs <;> exact Iff.rfl
theorem w_at {T : Tb} {g : Str} : wp (xAtV T i g l) cs Q E ↔ (match l[i]? with
    | some (.own (.ins c fs)) => ∃ r, attI T c g fs = some r ∧ Q r cs
    | some (.val d) => ∃ r, dAt T g cs d = some r ∧ Q r cs
    | some (.me d) => ∃ r, dAt T g cs d = some r ∧ Q r cs
    | _ => False) := by
  unfold xAtV
  generalize l[i]? = o
  rcases o with _ | s
  · exact Iff.rfl
  · cases s with
    | own c => cases c <;> first | exact wp_rd | exact Iff.rfl
    | _ => first | exact wp_rd | exact Iff.rfl
theorem w_lenO : wp (xLenO i l) cs Q E ↔ (match l[i]? with
    | some (.own (.lst xs)) => Q (.int xs.length) cs
    | some (.val d) => ∃ r, dLen cs [d] = some r ∧ Q r cs
    | _ => False) := by
  unfold xLenO
  generalize l[i]? = o
  rcases o with _ | s
  · exact Iff.rfl
  · cases s with
    | own c => cases c <;> first | exact wp_rd | exact Iff.rfl
    | _ => first | exact wp_rd | exact Iff.rfl
theorem w_chain {g g' : Cells → D → D → Option D} : wp (xChain g g' fa fb fc l) cs Q E ↔ wp (fa l) cs (fun x cs1 => wp (fb l) cs1 (fun y cs2 => ∃ r, g cs2 x y = some r ∧ ∃ k, r = .bl k ∧ if k = true then wp (fc l) cs2 (fun w cs3 => ∃ r, g' cs3 y w = some r ∧ Q r cs3) E else Q (.bl false) cs2) E) E := by
  unfold xChain
  simp only [wp_bd, wp_rd]
  constructor
  · refine fun h => wp_imp h (fun x cs1 h => wp_imp h (fun y cs2 ⟨r, hr, h⟩ => ⟨r, hr, ?_⟩) fun _ _ h => h) fun _ _ h => h
    obtain ⟨k, e, w⟩ := asB_ok h
    refine ⟨k, e, ?_⟩
    cases k with
    | true => exact iteT (by simpa only [wp_bd, wp_rd, if_true] using w)
    | false => exact iteF w
  · refine fun h => wp_imp h (fun x cs1 h => wp_imp h (fun y cs2 ⟨r, hr, k, e, h⟩ => ⟨r, hr, ?_⟩) fun _ _ h => h) fun _ _ h => h
    rw [e]
    show wp (if k = true then _ else _) _ _ _
    cases k with
    | true => simpa only [wp_bd, wp_rd, if_true] using h
    | false => exact h
theorem w_tru : wp (bTru fa l) cs R E ↔ wp (fa l) cs (fun d cs1 => ∃ k, truD cs1 d = some k ∧ R k cs1) E := by unfold bTru; simp only [wp_bd, wp_rd]
theorem w_inO {neg : Bool} : wp (bInO neg i fa l) cs R E ↔ wp (fa l) cs (fun d cs1 => match l[i]?, keyOf d with | some (.own (.set ks)), some k => R (hasK ks k != neg) cs1 | _, _ => False) E := by
  unfold bInO
  rw [wp_bd]
  have e : ∀ (o : Option Sl) (d : D) (cs1 : Cells), wp (match o, keyOf d with | some (.own (.set ks)), some k => rt (hasK ks k != neg) | _, _ => no) cs1 R E ↔ match o, keyOf d with | some (.own (.set ks)), some k => R (hasK ks k != neg) cs1 | _, _ => False := by
    intro o d cs1
    generalize keyOf d = q
    rcases o with _ | s
    · exact Iff.rfl
    · cases s with
      | own c => cases c <;> cases q <;> exact Iff.rfl
      | _ => exact Iff.rfl
  constructor
  · exact fun h => wp_imp h (fun d cs1 w => (e _ d cs1).mp w) fun _ _ h => h
  · exact fun h => wp_imp h (fun d cs1 w => (e _ d cs1).mpr w) fun _ _ h => h
theorem w_xf {T : Te} {x g : Str} : wp (xXf T x i g l) cs Q E ↔ (match l[i]? with
    | some (.exn y) => (decide (y.c = x) && T.fld x g) = true ∧ ∃ r, y.fs.lookup g = some r ∧ Q r cs
    | _ => False) := by
  unfold xXf
  generalize l[i]? = o
  rcases o with _ | s
  · exact Iff.rfl
  · cases s with
    | exn y =>
      dsimp only
      rw [w_ite]
      split
      · rename_i hc; exact ⟨fun z => ⟨hc, wp_rd.mp z⟩, fun z => wp_rd.mpr z.2⟩
      · rename_i hc; exact ⟨fun z => z.elim, fun z => absurd z.1 hc⟩
    | _ => exact Iff.rfl
theorem w_isX {T : Te} {T2 : Tb} {tg : Tag} : wp (xIsX T T2 i tg l) cs Q E ↔ (match l[i]? with
    | some (.exn y) => T.has y.c = true ∧ ∃ r, (T2.is (.c y.c) tg).map D.bl = some r ∧ Q r cs
    | _ => False) := by
  unfold xIsX
  generalize l[i]? = o
  rcases o with _ | s
  · exact Iff.rfl
  · cases s with
    | exn y =>
      dsimp only
      rw [w_ite]
      split
      · rename_i hc; exact ⟨fun z => ⟨hc, wp_rd.mp z⟩, fun z => wp_rd.mpr z.2⟩
      · rename_i hc; exact ⟨fun z => z.elim, fun z => absurd z.1 hc⟩
    | _ => exact Iff.rfl
theorem w_eq {eqs : EqT} {ord : OrT} {neg : Bool} : wp (xEq eqs ord neg fa fb l) cs Q E ↔ wp (fa l) cs (fun x cs1 => wp (fb l) cs1 (fun y cs2 => wp (eqDyn eqs ord neg x y) cs2 Q fun _ _ => False) E) E := by unfold xEq; simp only [wp_bd, w_nox]
theorem w_lc {g : XG} {vs : List Nat} : wp (xLc f g t fa vs l) cs Q E ↔ wp (f l) cs (fun ds cs1 => ds.length ≤ 1000000 ∧ wp (compL g t fa (wipeL l vs) ds) cs1 (fun ys cs2 => Q (.lst ys) cs2) E) E := by unfold xLc; simp only [wp_bd, wp_rt, w_fit]
/-! walks -/
theorem w_iSeq : wp (iSeq fa l) cs U E ↔ wp (fa l) cs (fun d cs1 => ∃ xs, frzL d = some xs ∧ U xs cs1) E := by unfold iSeq; simp only [wp_bd, wp_rd]
def enuD : D → Option (List D)
  | .lst xs => some (numbered 0 xs)
  | .wls xs => some (numbered 0 xs)
  | _ => none
theorem w_iEnu : wp (iEnu fa l) cs U E ↔ wp (fa l) cs (fun d cs1 => ∃ r, enuD d = some r ∧ U r cs1) E := by
  unfold iEnu
  simp only [wp_bd, wp_rd]
  refine wp_iff (fun d cs' => ?_) fun _ _ => Iff.rfl
  cases d <;> exact Iff.rfl
theorem w_iStr : wp (iStr fa l) cs U E ↔ wp (fa l) cs (fun d cs1 => ∃ x, d = .str x ∧ U (x.cps.toList.map fun c => D.str ⟨#[c]⟩) cs1) E := by
  unfold iStr
  simp only [wp_bd, wp_rt]
  constructor
  · exact fun h => wp_imp h (fun d cs1 w => asS_ok w) fun _ _ h => h
  · exact fun h => wp_imp h (fun d cs1 ⟨k, e, w⟩ => by rw [e]; exact w) fun _ _ h => h
theorem w_iRng : wp (iRng fa l) cs U E ↔ wp (fa l) cs (fun d cs1 => ∃ j : Int, d = .int j ∧ (-1000000 < j ∧ j < 1000000) ∧ U ((List.range j.toNat).map fun (i : Nat) => D.int i) cs1) E := by
  unfold iRng
  simp only [wp_bd]
  constructor
  · refine fun h => wp_imp h (fun d cs1 w => ?_) fun _ _ h => h
    obtain ⟨j, e, w⟩ := asI_ok w
    by_cases c : (decide (-1000000 < j) && cRng j) = true
    · dsimp only at w
      rw [if_pos c] at w
      simp only [Bool.and_eq_true, cRng, decide_eq_true_eq] at c
      exact ⟨j, e, c, w⟩
    · dsimp only at w
      rw [if_neg c] at w
      exact w.elim
  · refine fun h => wp_imp h (fun d cs1 ⟨j, e, c, w⟩ => ?_) fun _ _ h => h
    rw [e]
    show wp (if (decide (-1000000 < j) && cRng j) = true then _ else _) _ _ _
    rw [if_pos (by simp only [Bool.and_eq_true, cRng, decide_eq_true_eq]; exact c)]
    exact w
/-! statements -/
theorem s_seq {f g : XS} : wpS (sSeq f g l cs) P ↔ wpS (f l cs) fun fl cs' => match fl with
    | .nx l' => wpS (g l' cs') P
    | r => P r cs' := wpS_seq
theorem s_nx : wpS (sNx l cs) P ↔ P (.nx l) cs := Iff.rfl
theorem s_set : wpS (sSet i fa l cs) P ↔ wp (fa l) cs (fun d cs' => P (.nx (l.set i (.val d))) cs') (fun x cs' => P (.ex x l) cs') := wpS_onE
theorem s_drop : wpS (sDrop fa l cs) P ↔ wp (fa l) cs (fun d cs' => P (.nx l) cs') (fun x cs' => P (.ex x l) cs') := wpS_onE
theorem s_ret : wpS (sRet fa l cs) P ↔ wp (fa l) cs (fun d cs' => P (.ret d) cs') (fun x cs' => P (.ex x l) cs') := wpS_onE
theorem s_retN : wpS (sRetN l cs) P ↔ P (.ret .non) cs := Iff.rfl
theorem wpS_ite {p : Prop} [Decidable p] {m m' : SO} : wpS (if p then m else m') P ↔ if p then wpS m P else wpS m' P := by split <;> exact Iff.rfl
theorem s_if : wpS (sIf t b c l cs) P ↔ wp (t l) cs (fun k cs' => if k = true then wpS (b l cs') P else wpS (c l cs') P) (fun x cs' => P (.ex x l) cs') := by
  unfold sIf
  rw [wpS_onE]
  simp only [wpS_ite]
theorem s_asg {g : XG} : wpS (sAsg fa g l cs) P ↔ wp (fa l) cs (fun d cs' => ∃ l', g d l cs' = some l' ∧ P (.nx l') cs') (fun x cs' => P (.ex x l) cs') := by
  unfold sAsg
  rw [wpS_onE]
  refine wp_iff (fun d cs' => ?_) fun _ _ => Iff.rfl
  cases g d l cs' with
  | none => exact ⟨fun h => h.elim, fun ⟨_, h, _⟩ => nomatch h⟩
  | some l' => exact ⟨fun h => ⟨l', rfl, h⟩, fun ⟨_, h, q⟩ => by cases h; exact q⟩
theorem s_par2 : wpS (sPar2 i j f l cs) P ↔ wp (f l) cs (fun ds cs' => match ds with | [a, b] => P (.nx ((l.set i (.val a)).set j (.val b))) cs' | _ => False) (fun x cs' => P (.ex x l) cs') := by
  unfold sPar2
  rw [wpS_onE]
  refine wp_iff (fun ds cs' => ?_) fun _ _ => Iff.rfl
  rcases ds with _ | ⟨a, _ | ⟨b, _ | ⟨c, r⟩⟩⟩ <;> exact Iff.rfl
theorem s_par3 : wpS (sPar3 i j k f l cs) P ↔ wp (f l) cs (fun ds cs' => match ds with | [a, b, c] => P (.nx (((l.set i (.val a)).set j (.val b)).set k (.val c))) cs' | _ => False) (fun x cs' => P (.ex x l) cs') := by
  unfold sPar3
  rw [wpS_onE]
  refine wp_iff (fun ds cs' => ?_) fun _ _ => Iff.rfl
  rcases ds with _ | ⟨a, _ | ⟨b, _ | ⟨c, _ | ⟨d, r⟩⟩⟩⟩ <;> exact Iff.rfl
theorem s_raise {x : Str} {ns : List Str} : wpS (sRaise x ns f l cs) P ↔ wp (f l) cs (fun ds cs' => ds.length = ns.length ∧ P (.ex (mkX x ns ds) l) cs') (fun x cs' => P (.ex x l) cs') := by
  unfold sRaise
  rw [wpS_onE]
  simp only [wpS_ite]
  have e : ∀ ds cs', (if ds.length = ns.length then wpS (SO.go (Fl.ex (mkX x ns ds) l) cs') P else wpS .no P) = (ds.length = ns.length ∧ P (.ex (mkX x ns ds) l) cs') := fun ds cs' => by
    split
    · rename_i h; exact propext ⟨fun z => ⟨h, z⟩, fun z => z.2⟩
    · rename_i h; exact propext ⟨fun z => z.elim, fun z => absurd z.1 h⟩
  simp only [e]
theorem s_ownC {g : XG} {vs : List Nat} : wpS (sOwnC i f g t fa vs l cs) P ↔ wp (f l) cs (fun ds cs1 => ds.length ≤ 1000000 ∧ wp (compL g t fa (wipeL l vs) ds) cs1 (fun ys cs2 => P (.nx (l.set i (.own (.lst ys)))) cs2) (fun x cs' => P (.ex x l) cs')) (fun x cs' => P (.ex x l) cs') := by
  unfold sOwnC lcM
  rw [wpS_onE]
  simp only [wp_bd, w_fit]
  exact Iff.rfl
theorem s_ownL : wpS (sOwnL i f l cs) P ↔ wp (f l) cs (fun ds cs1 => P (.nx (l.set i (.own (.lst ds)))) cs1) (fun x cs' => P (.ex x l) cs') := wpS_onE
theorem s_mutO {g : List D → List D → Option (List D)} : wpS (sMutO i g f l cs) P ↔ (match l[i]? with
    | some (.own (.lst xs)) => wp (f l) cs (fun ds cs1 => ∃ ys, g xs ds = some ys ∧ P (.nx (l.set i (.own (.lst ys)))) cs1) (fun x cs' => P (.ex x l) cs')
    | _ => False) := by
  unfold sMutO
  generalize l[i]? = o
  rcases o with _ | s
  · exact Iff.rfl
  · cases s with
    | own c =>
      cases c with
      | lst xs =>
        dsimp only
        rw [wpS_onE]
        refine wp_iff (fun ds cs' => ?_) fun _ _ => Iff.rfl
        cases g xs ds with
        | none => exact ⟨fun h => h.elim, fun ⟨_, h, _⟩ => nomatch h⟩
        | some l' => exact ⟨fun h => ⟨l', rfl, h⟩, fun ⟨_, h, q⟩ => by cases h; exact q⟩
      | _ => exact Iff.rfl
    | _ => exact Iff.rfl
theorem s_own {o : C} : wpS (sOwn i o l cs) P ↔ P (.nx (l.set i (.own o))) cs := Iff.rfl
theorem s_addO : wpS (sAddO i fa l cs) P ↔ (match l[i]? with
    | some (.own (.set ks)) => wp (fa l) cs (fun d cs1 => ∃ k, keyOf d = some k ∧ ks.length < 4000 ∧ P (.nx (l.set i (.own (.set (addK ks k))))) cs1) (fun x cs' => P (.ex x l) cs')
    | _ => False) := by
  unfold sAddO
  generalize l[i]? = o
  rcases o with _ | s
  · exact Iff.rfl
  · cases s with
    | own c =>
      cases c with
      | set ks =>
        dsimp only
        rw [wpS_onE]
        refine wp_iff (fun d cs' => ?_) fun _ _ => Iff.rfl
        cases keyOf d with
        | none => exact ⟨fun h => h.elim, fun ⟨_, h, _⟩ => nomatch h⟩
        | some k =>
          dsimp only
          rw [wpS_ite]
          split
          · rename_i hl; exact ⟨fun z => ⟨k, rfl, hl, z⟩, fun ⟨_, h, _, z⟩ => by cases h; exact z⟩
          · rename_i hl; exact ⟨fun z => z.elim, fun ⟨_, _, h, _⟩ => absurd h hl⟩
      | _ => exact Iff.rfl
    | _ => exact Iff.rfl
theorem s_fldO {T : Tb} {g : Str} : wpS (sFldO T i g fa l cs) P ↔ wp (fa l) cs (fun d cs' => match l[i]? with
    | some (.own (.ins c fs)) => (T.fld c g && decide (fs.length < 900)) = true ∧ P (.nx (l.set i (.own (.ins c (putD g d fs))))) cs'
    | _ => False) (fun x cs' => P (.ex x l) cs') := by
  unfold sFldO
  rw [wpS_onE]
  refine wp_iff (fun d cs' => ?_) fun _ _ => Iff.rfl
  generalize l[i]? = o
  rcases o with _ | s
  · exact Iff.rfl
  · cases s with
    | own c =>
      cases c with
      | ins c fs =>
        dsimp only
        rw [wpS_ite]
        split
        · rename_i h; exact ⟨fun z => ⟨h, z⟩, fun z => z.2⟩
        · rename_i h; exact ⟨fun z => z.elim, fun z => absurd z.1 h⟩
      | _ => exact Iff.rfl
    | _ => exact Iff.rfl
theorem s_for {g : XG} : wpS (sFor f g b l cs) P ↔ wp (f l) cs (fun ds cs' => wpS (forL (turn g b) ds l cs') P) (fun x cs' => P (.ex x l) cs') := wpS_onE
theorem s_setI : wpS (sSetI fv fo fi l cs) P ↔ wp (fv l) cs (fun v cs1 => wp (fo l) cs1 (fun o cs2 => wp (fi l) cs2 (fun y cs3 => wp (setC o y v) cs3 (fun _ cs4 => P (.nx l) cs4) (fun x cs' => P (.ex x l) cs')) (fun x cs' => P (.ex x l) cs')) (fun x cs' => P (.ex x l) cs')) (fun x cs' => P (.ex x l) cs') := by
  unfold sSetI
  simp only [wpS_onE]
  exact Iff.rfl
theorem w_run : wp (runB b l) cs Q E ↔ wpS (b l cs) fun fl cs' => match fl with
    | .ret d => Q d cs'
    | .nx _ => Q .non cs'
    | .ex x _ => E x cs'
    | _ => False := by
  unfold wp runB
  cases b l cs with
  | no => exact Iff.rfl
  | go fl cs' => cases fl <;> exact Iff.rfl
/-- a loop by an invariant -/
theorem for_inv {body : D → Loc → Cells → SO} {ds : List D} (I : Nat → Loc → Cells → Prop) (h0 : I 0 l cs) (step : ∀ (i : Nat) (d : D) (l : Loc) (cs : Cells), ds[i]? = some d → I i l cs → wpS (body d l cs) fun fl cs' => match fl with
    | .nx l' => I (i + 1) l' cs'
    | .ct l' => I (i + 1) l' cs'
    | .bk l' => P (.nx l') cs'
    | r => P r cs') (hd : ∀ (l : Loc) (cs : Cells), I ds.length l cs → P (.nx l) cs) : wpS (forL body ds l cs) P := by
  induction ds generalizing I l cs with
  | nil => exact hd l cs h0
  | cons d ds ih =>
    have s := step 0 d l cs rfl h0
    unfold forL
    cases q : body d l cs with
    | no => rw [q] at s; exact s.elim
    | go fl cs' =>
      rw [q] at s
      cases fl with
      | nx l' => exact ih (I := fun i => I (i + 1)) s (fun i d l cs h => step (i + 1) d l cs (by simpa using h)) hd
      | ct l' => exact ih (I := fun i => I (i + 1)) s (fun i d l cs h => step (i + 1) d l cs (by simpa using h)) hd
      | bk l' => exact s
      | ret d => exact s
      | ex x l' => exact s
theorem s_turn {g : XG} {d : D} : wpS (turn g b d l cs) P ↔ ∃ l', g d l cs = some l' ∧ wpS (b l' cs) P := by
  unfold turn
  cases g d l cs with
  | none => exact ⟨fun h => h.elim, fun ⟨_, h, _⟩ => nomatch h⟩
  | some l' => exact ⟨fun h => ⟨l', rfl, h⟩, fun ⟨_, h, q⟩ => by cases h; exact q⟩
end
/-- an equality from the weakest precondition -/
theorem of_wp {α : Type} {m : EM α} {cs : Cells} {Q : α → Cells → Prop} (h : wp m cs Q fun _ _ => False) : ∃ a cs', m cs = .ok a cs' ∧ Q a cs' := by
  unfold wp at h
  cases e : m cs with
  | ok a cs' => rw [e] at h; exact ⟨a, cs', rfl, h⟩
  | exc x cs' => rw [e] at h; exact h.elim
  | no => rw [e] at h; exact h.elim
end F

/-! what the value words do at known values -/
namespace F
open PySem L2
section
variable {cs : Cells} {Q : D → Prop} {i j : Int} {a b : Str} {xs ys : List D} {d e : D} {n : Nat}
theorem ex_some {α : Type} {x : α} {Q : α → Prop} : (∃ r, some x = some r ∧ Q r) ↔ Q x := ⟨fun ⟨_, h, q⟩ => by cases h; exact q, fun q => ⟨_, rfl, q⟩⟩
theorem ex_if {α : Type} {p : Prop} [Decidable p] {x : α} {Q : α → Prop} : (∃ r, (if p then some x else none) = some r ∧ Q r) ↔ p ∧ Q x := by
  split
  · rename_i h; exact ex_some.trans ⟨fun q => ⟨h, q⟩, fun q => q.2⟩
  · rename_i h; exact ⟨fun ⟨_, h, _⟩ => (nomatch h), fun q => absurd q.1 h⟩
theorem ex_none {α : Type} {Q : α → Prop} : (∃ r, (none : Option α) = some r ∧ Q r) ↔ False := by
  constructor
  · rintro ⟨_, h, _⟩
    cases h
  · intro h
    exact False.elim h
theorem ex_bl {k : Bool} {Q : Bool → Prop} : (∃ r, D.bl k = .bl r ∧ Q r) ↔ Q k := ⟨fun ⟨_, h, q⟩ => by cases h; exact q, fun q => ⟨_, rfl, q⟩⟩
theorem ex_int {Q : Int → Prop} : (∃ r, D.int i = .int r ∧ Q r) ↔ Q i := ⟨fun ⟨_, h, q⟩ => by cases h; exact q, fun q => ⟨_, rfl, q⟩⟩
theorem ex_str {Q : Str → Prop} : (∃ r, D.str a = .str r ∧ Q r) ↔ Q a := ⟨fun ⟨_, h, q⟩ => by cases h; exact q, fun q => ⟨_, rfl, q⟩⟩
theorem ex_map {α β : Type} {o : Option α} {f : α → β} {Q : β → Prop} : (∃ r, o.map f = some r ∧ Q r) ↔ ∃ r, o = some r ∧ Q (f r) := by
  cases o with
  | none => exact ⟨fun ⟨_, h, _⟩ => (nomatch h), fun ⟨_, h, _⟩ => nomatch h⟩
  | some x => exact ⟨fun ⟨_, h, q⟩ => ⟨x, rfl, by cases h; exact q⟩, fun ⟨_, h, q⟩ => ⟨_, rfl, by cases h; exact q⟩⟩
theorem x_addI : (∃ r, dAdd cs (.int i) (.int j) = some r ∧ Q r) ↔ Q (.int (i + j)) := ex_some
theorem x_addS : (∃ r, dAdd cs (.str a) (.str b) = some r ∧ Q r) ↔ fitB (a.length + b.length) = true ∧ Q (.str (a ++ b)) := ex_if
theorem x_addT : (∃ r, dAdd cs (.tup xs) (.tup ys) = some r ∧ Q r) ↔ fitB (xs.length + ys.length) = true ∧ Q (.tup (xs ++ ys)) := ex_if
theorem x_addL : (∃ r, dAdd cs (.lst xs) (.lst ys) = some r ∧ Q r) ↔ fitB (xs.length + ys.length) = true ∧ Q (.lst (xs ++ ys)) := ex_if
theorem x_sub : (∃ r, dSub cs (.int i) (.int j) = some r ∧ Q r) ↔ Q (.int (i - j)) := ex_some
theorem x_mul : (∃ r, dMul cs (.int i) (.int j) = some r ∧ Q r) ↔ cMul i j = true ∧ Q (.int (i * j)) := ex_if
theorem x_mod : (∃ r, dMod cs (.int i) (.int j) = some r ∧ Q r) ↔ cMod i j = true ∧ Q (.int (i % j)) := ex_if
theorem x_div : (∃ r, dDiv cs (.int i) (.int j) = some r ∧ Q r) ↔ cDiv i j = true ∧ Q (.int (i / j)) := ex_if
theorem x_pow : (∃ r, dPow cs (.int i) (.int j) = some r ∧ Q r) ↔ cPow i j = true ∧ Q (.int (i ^ j.toNat)) := ex_if
theorem x_lt : (∃ r, dLt cs (.int i) (.int j) = some r ∧ Q r) ↔ Q (.bl (decide (i < j))) := ex_some
theorem x_le : (∃ r, dLe cs (.int i) (.int j) = some r ∧ Q r) ↔ Q (.bl (decide (i ≤ j))) := ex_some
theorem x_gt : (∃ r, dGt cs (.int i) (.int j) = some r ∧ Q r) ↔ Q (.bl (decide (j < i))) := ex_some
theorem x_ge : (∃ r, dGe cs (.int i) (.int j) = some r ∧ Q r) ↔ Q (.bl (decide (j ≤ i))) := ex_some
theorem x_neg : (∃ r, dNeg cs (.int i) = some r ∧ Q r) ↔ Q (.int (-i)) := ex_some
theorem x_int : (∃ r, dInt cs [.int i] = some r ∧ Q r) ↔ Q (.int i) := ex_some
theorem x_abs : (∃ r, dAbs cs [.int i] = some r ∧ Q r) ↔ Q (.int (if i < 0 then -i else i)) := ex_some
theorem x_min : (∃ r, dMin cs [.int i, .int j] = some r ∧ Q r) ↔ Q (.int (if j < i then j else i)) := ex_some
theorem x_max : (∃ r, dMax cs [.int i, .int j] = some r ∧ Q r) ↔ Q (.int (if j > i then j else i)) := ex_some
theorem x_lenS : (∃ r, dLen cs [.str a] = some r ∧ Q r) ↔ Q (.int a.length) := ex_some
theorem x_lenL : (∃ r, dLen cs [.lst xs] = some r ∧ Q r) ↔ Q (.int xs.length) := ex_some
theorem x_lenW : (∃ r, dLen cs [.wls xs] = some r ∧ Q r) ↔ Q (.int xs.length) := ex_some
theorem x_lenT : (∃ r, dLen cs [.tup xs] = some r ∧ Q r) ↔ Q (.int xs.length) := ex_some
theorem x_eqS : (∃ r, dEq cs (.str a) (.str b) = some r ∧ Q r) ↔ Q (.bl (decide (a = b))) := ex_some
theorem x_neS : (∃ r, dNe cs (.str a) (.str b) = some r ∧ Q r) ↔ Q (.bl (!decide (a = b))) := ex_some
theorem x_eqI : (∃ r, dEq cs (.int i) (.int j) = some r ∧ Q r) ↔ Q (.bl (decide (i = j))) := ex_some
theorem x_neI : (∃ r, dNe cs (.int i) (.int j) = some r ∧ Q r) ↔ Q (.bl (!decide (i = j))) := ex_some
theorem x_isN : (∃ r, dIsN cs d .non = some r ∧ Q r) ↔ Q (.bl (isNon d)) := ex_some
theorem x_notN : (∃ r, dNotN cs d .non = some r ∧ Q r) ↔ Q (.bl (!isNon d)) := ex_some
theorem x_ixL : (∃ r, dIx cs (.lst xs) (.int i) = some r ∧ Q r) ↔ ∃ r, atI xs i = some r ∧ Q r := Iff.rfl
theorem x_ixW : (∃ r, dIx cs (.wls xs) (.int i) = some r ∧ Q r) ↔ ∃ r, atI xs i = some r ∧ Q r := Iff.rfl
theorem x_ixT : (∃ r, dIx cs (.tup xs) (.int i) = some r ∧ Q r) ↔ ∃ r, atI xs i = some r ∧ Q r := Iff.rfl
theorem x_ixS : (∃ r, dIx cs (.str a) (.int i) = some r ∧ Q r) ↔ ∃ c, atI a.cps.toList i = some c ∧ Q (.str ⟨#[c]⟩) := ex_map
theorem x_tupL : (∃ r, dTuple cs [.lst xs] = some r ∧ Q r) ↔ Q (.tup xs) := ex_some
theorem x_tupT : (∃ r, dTuple cs [.tup xs] = some r ∧ Q r) ↔ Q (.tup xs) := ex_some
theorem x_frzL {Q : List D → Prop} : (∃ r, frzL (.lst xs) = some r ∧ Q r) ↔ Q xs := ex_some
theorem x_frzT {Q : List D → Prop} : (∃ r, frzL (.tup xs) = some r ∧ Q r) ↔ Q xs := ex_some
theorem x_frzW {Q : List D → Prop} : (∃ r, frzL (.wls xs) = some r ∧ Q r) ↔ Q xs := ex_some
theorem x_enuL {Q : List D → Prop} : (∃ r, enuD (.lst xs) = some r ∧ Q r) ↔ Q (numbered 0 xs) := ex_some
theorem x_seqL {Q : List D → Prop} : (∃ r, seqOf cs (.lst xs) = some r ∧ Q r) ↔ Q xs := ex_some
theorem x_seqT {Q : List D → Prop} : (∃ r, seqOf cs (.tup xs) = some r ∧ Q r) ↔ Q xs := ex_some
theorem x_gN {l : Loc} {k : Nat} {Q : Loc → Prop} : (∃ r, gN k d l cs = some r ∧ Q r) ↔ Q (l.set k (.val d)) := ex_some
theorem x_g2 {l : Loc} {k m : Nat} {Q : Loc → Prop} : (∃ r, gT 2 (gsCons (gN k) (gsCons (gN m) gsNil)) (.tup [d, e]) l cs = some r ∧ Q r) ↔ Q ((l.set k (.val d)).set m (.val e)) := ex_some
theorem atI_nat {α : Type} {xs : List α} {k : Nat} {x : α} (h : xs[k]? = some x) : atI xs (k : Int) = some x := E.atI_of (Int.natCast_nonneg k) (by simpa using h)
end
end F

/-! the shared helpers, what they answer -/
namespace F
open PySem L2
theorem w_yes {l : Loc} {cs : Cells} {R : Bool → Cells → Prop} {E : Exn → Cells → Prop} : wp (bYes l) cs R E ↔ R true cs := Iff.rfl
theorem ixN_nat {n k : Nat} (h : k < n) : ixN n (k : Int) = some k := by
  unfold ixN
  split <;> first | omega | skip
  split <;> first | omega | skip
  all_goals simp
theorem wp_setC {cs : Cells} {n k : Nat} {v : D} {xs : List D} {Z : Unit → Cells → Prop} {E : Exn → Cells → Prop} (h : celL cs n = some xs) (hk : k < xs.length) : wp (setC (.cel n) (.int (k : Int)) v) cs Z E ↔ Z () (cs.set n (.lst (xs.set k v))) := by
  unfold wp setC
  dsimp only
  rw [h]
  dsimp only
  rw [ixN_nat hk]
theorem celL_of {cs : Cells} {n : Nat} {xs : List D} (h : cs[n]? = some (.lst xs)) : celL cs n = some xs := by
  unfold celL
  rw [h]
theorem x_ixC {cs : Cells} {n k : Nat} {xs : List D} {d : D} {Q : D → Prop} (h : celL cs n = some xs) (hk : xs[k]? = some d) : (∃ r, dIx cs (.cel n) (.int (k : Int)) = some r ∧ Q r) ↔ Q d := by
  have e : dIx cs (.cel n) (.int (k : Int)) = some d := by
    show (match celL cs n with | some xs => atI xs (k : Int) | none => none) = some d
    rw [h]
    exact atI_nat hk
  rw [e]
  exact ex_some
local macro_rules | `(tactic| walk_at "w") => `(tactic| simp only [w_run, w_var, w_c, w_1, w_2, w_N, w_bV, w_bNot, w_bOr, w_bAnd, w_xOr, w_xAnd, w_xNot, w_xIf, w_aNil, w_aCons, w_aStar, w_tup, w_lst, w_tupS, w_lstS, w_lstC, w_listC, w_oNone, w_oSome, w_sl, w_join, w_call, w_chk, w_at, w_lenO, w_chain, w_tru, w_inO, w_xf, w_isX, w_eq, w_lc, w_iSeq, w_iEnu, w_iStr, w_iRng, w_yes,
  s_seq, s_nx, s_set, s_drop, s_ret, s_retN, s_if, s_asg, s_par2, s_par3, s_raise, s_ownC, s_ownL, s_mutO, s_own, s_addO, s_fldO, s_for, s_setI, s_turn,
  ex_some, ex_if, ex_none, ex_bl, ex_int, ex_str, x_addI, x_addS, x_addT, x_addL, x_sub, x_mul, x_mod, x_div, x_pow, x_lt, x_le, x_gt, x_ge, x_neg, x_int, x_abs, x_min, x_max, x_lenS, x_lenL, x_lenW, x_lenT, x_eqS, x_neS, x_eqI, x_neI, x_isN, x_notN, x_ixL, x_ixW, x_ixT, x_ixS, x_tupL, x_tupT, x_frzL, x_frzT, x_frzW, x_enuL, x_seqL, x_seqT, x_gN, x_g2,
  List.getElem?_cons_zero, List.getElem?_cons_succ, List.set_cons_zero, List.set_cons_succ, List.length_nil, wipeL, decide_eq_true_eq, Bool.not_eq_true', decide_eq_false_iff_not, true_and, and_true])
/-! bags -/
structure BagOk (n : Nat) (d m c : Int) : Prop where
  d0 : 0 ≤ d
  m0 : 0 ≤ m
  m1 : m ≤ 17000000000000000000
  c0 : 0 ≤ c
  c1 : c + n ≤ 10000000000
def Bag (cs : Cells) (b n : Nat) : Prop := ∃ d m c, cs[b]? = some (.lst [.int d, .int m, .int c]) ∧ BagOk n d m c
theorem Bag.mono {cs : Cells} {b n m : Nat} (h : Bag cs b n) (le : m ≤ n) : Bag cs b m := by
  obtain ⟨d, k, c, e, a, b, b2, c0, c1⟩ := h
  exact ⟨d, k, c, e, a, b, b2, c0, by omega⟩
def Kp (b : Nat) (cs cs' : Cells) : Prop := cs'.length = cs.length ∧ ∀ k, k ≠ b → cs'[k]? = cs[k]?
theorem Kp.refl {b : Nat} {cs : Cells} : Kp b cs cs := ⟨rfl, fun _ _ => rfl⟩
theorem Kp.trans {b : Nat} {cs cs1 cs2 : Cells} (h : Kp b cs cs1) (k : Kp b cs1 cs2) : Kp b cs cs2 := ⟨k.1.trans h.1, fun j n => (k.2 j n).trans (h.2 j n)⟩
theorem Kp.set {b : Nat} {cs : Cells} {o : C} : Kp b cs (cs.set b o) := ⟨List.length_set, fun k n => List.getElem?_set_ne (Ne.symm n)⟩
theorem log2_lt {m : Int} (h : 0 < m) (h1 : m ≤ 1000000) : m.natAbs.log2 < 9000 := by
  have : m.natAbs.log2 ≤ m.natAbs := Nat.log2_le_self _
  have h2 : m.natAbs < 2 ^ 9000 := Nat.lt_of_le_of_lt (show m.natAbs ≤ 2 ^ 20 by omega) (Nat.pow_lt_pow_right (by decide) (by decide))
  by_cases z : m.natAbs = 0
  · rw [z]; decide
  · exact (Nat.log2_lt z).mpr h2
end F

/-! names and words, plain -/
namespace F
open PySem L2
abbrev tx (l : List Nat) : Str := ⟨l.toArray⟩
def nmS (x : Str) : Bool := decide (1 ≤ x.length) && (decide (x.length ≤ 8) && x.cps.toList.all fun c => decide (97 ≤ c) && decide (c ≤ 122))
def isNm : D → Bool
  | .str x => nmS x
  | _ => false
section
variable {x : Str}
end
end F

/-! the shared helpers, what they answer (2) -/
namespace F
open PySem L2
local macro_rules | `(tactic| walk_at "w") => `(tactic| simp only [w_run, w_var, w_c, w_1, w_2, w_N, w_bV, w_bNot, w_bOr, w_bAnd, w_xOr, w_xAnd, w_xNot, w_xIf, w_aNil, w_aCons, w_aStar, w_tup, w_lst, w_tupS, w_lstS, w_lstC, w_listC, w_oNone, w_oSome, w_sl, w_join, w_call, w_chk, w_at, w_lenO, w_chain, w_tru, w_inO, w_xf, w_isX, w_eq, w_lc, w_iSeq, w_iEnu, w_iStr, w_iRng, w_yes,
  s_seq, s_nx, s_set, s_drop, s_ret, s_retN, s_if, s_asg, s_par2, s_par3, s_raise, s_ownC, s_ownL, s_mutO, s_own, s_addO, s_fldO, s_for, s_setI, s_turn,
  ex_some, ex_if, ex_none, ex_bl, ex_int, ex_str, x_addI, x_addS, x_addT, x_addL, x_sub, x_mul, x_mod, x_div, x_pow, x_lt, x_le, x_gt, x_ge, x_neg, x_int, x_abs, x_min, x_max, x_lenS, x_lenL, x_lenW, x_lenT, x_eqS, x_neS, x_eqI, x_neI, x_isN, x_notN, x_ixL, x_ixW, x_ixT, x_ixS, x_tupL, x_tupT, x_frzL, x_frzT, x_frzW, x_enuL, x_seqL, x_seqT, x_gN, x_g2,
  List.getElem?_cons_zero, List.getElem?_cons_succ, List.set_cons_zero, List.set_cons_succ, List.length_nil, wipeL, decide_eq_true_eq, Bool.not_eq_true', decide_eq_false_iff_not, true_and, and_true])
theorem pow10_18 : (10 : Int) ^ (18 : Int).toNat = 1000000000000000000 := by decide +kernel
end F

/-! the shared helpers, what they answer (3) -/
namespace F
open PySem L2
local macro_rules | `(tactic| walk_at "w") => `(tactic| simp only [w_run, w_var, w_c, w_1, w_2, w_N, w_bV, w_bNot, w_bOr, w_bAnd, w_xOr, w_xAnd, w_xNot, w_xIf, w_aNil, w_aCons, w_aStar, w_tup, w_lst, w_tupS, w_lstS, w_lstC, w_listC, w_oNone, w_oSome, w_sl, w_join, w_call, w_chk, w_at, w_lenO, w_chain, w_tru, w_inO, w_xf, w_isX, w_eq, w_lc, w_iSeq, w_iEnu, w_iStr, w_iRng, w_yes,
  s_seq, s_nx, s_set, s_drop, s_ret, s_retN, s_if, s_asg, s_par2, s_par3, s_raise, s_ownC, s_ownL, s_mutO, s_own, s_addO, s_fldO, s_for, s_setI, s_turn,
  ex_some, ex_if, ex_none, ex_bl, ex_int, ex_str, x_addI, x_addS, x_addT, x_addL, x_sub, x_mul, x_mod, x_div, x_pow, x_lt, x_le, x_gt, x_ge, x_neg, x_int, x_abs, x_min, x_max, x_lenS, x_lenL, x_lenW, x_lenT, x_eqS, x_neS, x_eqI, x_neI, x_isN, x_notN, x_ixL, x_ixW, x_ixT, x_ixS, x_tupL, x_tupT, x_frzL, x_frzT, x_frzW, x_enuL, x_seqL, x_seqT, x_gN, x_g2,
  List.getElem?_cons_zero, List.getElem?_cons_succ, List.set_cons_zero, List.set_cons_succ, List.length_nil, wipeL, decide_eq_true_eq, Bool.not_eq_true', decide_eq_false_iff_not, true_and, and_true])
def datD : D → Bool
  | .non => true
  | .bl _ => true
  | .int _ => true
  | .str _ => true
  | .tup _ => true
  | .lst _ => true
  | _ => false
end F

/-! the shared helpers, what they answer (4) -/
namespace F
open PySem L2
local macro_rules | `(tactic| walk_at "w") => `(tactic| simp only [w_run, w_var, w_c, w_1, w_2, w_N, w_bV, w_bNot, w_bOr, w_bAnd, w_xOr, w_xAnd, w_xNot, w_xIf, w_aNil, w_aCons, w_aStar, w_tup, w_lst, w_tupS, w_lstS, w_lstC, w_listC, w_oNone, w_oSome, w_sl, w_join, w_call, w_chk, w_at, w_lenO, w_chain, w_tru, w_inO, w_xf, w_isX, w_eq, w_lc, w_iSeq, w_iEnu, w_iStr, w_iRng, w_yes,
  s_seq, s_nx, s_set, s_drop, s_ret, s_retN, s_if, s_asg, s_par2, s_par3, s_raise, s_ownC, s_ownL, s_mutO, s_own, s_addO, s_fldO, s_for, s_setI, s_turn,
  ex_some, ex_if, ex_none, ex_bl, ex_int, ex_str, x_addI, x_addS, x_addT, x_addL, x_sub, x_mul, x_mod, x_div, x_pow, x_lt, x_le, x_gt, x_ge, x_neg, x_int, x_abs, x_min, x_max, x_lenS, x_lenL, x_lenW, x_lenT, x_eqS, x_neS, x_eqI, x_neI, x_isN, x_notN, x_ixL, x_ixW, x_ixT, x_ixS, x_tupL, x_tupT, x_frzL, x_frzT, x_frzW, x_enuL, x_seqL, x_seqT, x_gN, x_g2,
  List.getElem?_cons_zero, List.getElem?_cons_succ, List.set_cons_zero, List.set_cons_succ, List.length_nil, wipeL, decide_eq_true_eq, Bool.not_eq_true', decide_eq_false_iff_not, true_and, and_true])
def isPt : D → Bool
  | .str x => nmS x && !decide (x = "up")
  | _ => false
end F

/-! the shared helpers, what they answer (5) -/
namespace F
open PySem L2
local macro_rules | `(tactic| walk_at "w") => `(tactic| simp only [w_run, w_var, w_c, w_1, w_2, w_N, w_bV, w_bNot, w_bOr, w_bAnd, w_xOr, w_xAnd, w_xNot, w_xIf, w_aNil, w_aCons, w_aStar, w_tup, w_lst, w_tupS, w_lstS, w_lstC, w_listC, w_oNone, w_oSome, w_sl, w_join, w_call, w_chk, w_at, w_lenO, w_chain, w_tru, w_inO, w_xf, w_isX, w_eq, w_lc, w_iSeq, w_iEnu, w_iStr, w_iRng, w_yes,
  s_seq, s_nx, s_set, s_drop, s_ret, s_retN, s_if, s_asg, s_par2, s_par3, s_raise, s_ownC, s_ownL, s_mutO, s_own, s_addO, s_fldO, s_for, s_setI, s_turn,
  ex_some, ex_if, ex_none, ex_bl, ex_int, ex_str, x_addI, x_addS, x_addT, x_addL, x_sub, x_mul, x_mod, x_div, x_pow, x_lt, x_le, x_gt, x_ge, x_neg, x_int, x_abs, x_min, x_max, x_lenS, x_lenL, x_lenW, x_lenT, x_eqS, x_neS, x_eqI, x_neI, x_isN, x_notN, x_ixL, x_ixW, x_ixT, x_ixS, x_tupL, x_tupT, x_frzL, x_frzT, x_frzW, x_enuL, x_seqL, x_seqT, x_gN, x_g2,
  List.getElem?_cons_zero, List.getElem?_cons_succ, List.set_cons_zero, List.set_cons_succ, List.length_nil, wipeL, decide_eq_true_eq, Bool.not_eq_true', decide_eq_false_iff_not, true_and, and_true])
/-! data that == and repr take -/
def okD (d : D) : Bool := match toP0 d with
  | some p => p.canLay0 && (decide (p.depth ≤ 20) && PyData.eqv p p)
  | none => false
theorem toPs_ok : ∀ {ds : List D}, (∀ d ∈ ds, okD d = true) → ∃ ps, toPs ds = some ps ∧ PyData.canLayAll0 ps = true ∧ PyData.depthAll ps ≤ 20 ∧ PyData.eqvAll ps ps = true ∧ ps.length = ds.length
  | [], _ => ⟨[], rfl, rfl, Nat.zero_le _, rfl, rfl⟩
  | d :: ds, h => by
    obtain ⟨ps, e, a, b, c, l⟩ := toPs_ok (ds := ds) fun x hx => h x (List.mem_cons_of_mem _ hx)
    have hd := h d List.mem_cons_self
    unfold okD at hd
    cases q : toP0 d with
    | none => rw [q] at hd; cases hd
    | some p =>
      rw [q] at hd
      simp only [Bool.and_eq_true, decide_eq_true_eq] at hd
      refine ⟨p :: ps, ?_, ?_, ?_, ?_, by simp [l]⟩
      · show (match toP0 d, toPs ds with | some p, some ps => some (p :: ps) | _, _ => none) = _
        rw [q, e]
      · show (PyData.canLay0 p && PyData.canLayAll0 ps) = true
        rw [hd.1, a]
        rfl
      · show max (PyData.depth p) (PyData.depthAll ps) ≤ 20
        omega
      · show (PyData.eqv p p && PyData.eqvAll ps ps) = true
        rw [hd.2.2, c]
        rfl
theorem shapedL {ps : List PyData} (a : PyData.canLayAll0 ps = true) (b : PyData.depthAll ps ≤ 20) : SeqAt.shaped (.list ps) = true := by
  unfold SeqAt.shaped
  rw [Bool.and_eq_true]
  refine ⟨a, decide_eq_true ?_⟩
  show PyData.depthAll ps + 1 ≤ 64
  omega
theorem toP0_lst {ds : List D} {ps : List PyData} (e : toPs ds = some ps) : toP0 (.lst ds) = some (.list ps) := by
  show (toPs ds).map PyData.list = _
  rw [e]
  rfl
theorem toP_lst {cs : Cells} {ds : List D} {ps : List PyData} (e : toPs ds = some ps) : toP cs (.lst ds) = some (.list ps) := toP0_lst e
theorem eqP_of {cs : Cells} {x y : D} {p q : PyData} (hx : toP cs x = some p) (hy : toP cs y = some q) (sp : SeqAt.shaped p = true) (sq : SeqAt.shaped q = true) : eqP cs x y = some (PyData.eqv p q) := by
  unfold eqP
  rw [hx, hy]
  dsimp only
  rw [sp, sq]
  rfl
/-! repr -/
def rp (d : D) : Str := match dRepr [] [d] with
  | some (.str r) => r
  | _ => ""
def okR (d : D) : Bool := match dRepr [] [d] with
  | some (.str r) => PyData.strOk r
  | _ => false
end F

/-! the shared helpers, what they answer (6) -/
namespace F
open PySem L2
local macro_rules | `(tactic| walk_at "w") => `(tactic| simp only [w_run, w_var, w_c, w_1, w_2, w_N, w_bV, w_bNot, w_bOr, w_bAnd, w_xOr, w_xAnd, w_xNot, w_xIf, w_aNil, w_aCons, w_aStar, w_tup, w_lst, w_tupS, w_lstS, w_lstC, w_listC, w_oNone, w_oSome, w_sl, w_join, w_call, w_chk, w_at, w_lenO, w_chain, w_tru, w_inO, w_xf, w_isX, w_eq, w_lc, w_iSeq, w_iEnu, w_iStr, w_iRng, w_yes,
  s_seq, s_nx, s_set, s_drop, s_ret, s_retN, s_if, s_asg, s_par2, s_par3, s_raise, s_ownC, s_ownL, s_mutO, s_own, s_addO, s_fldO, s_for, s_setI, s_turn,
  ex_some, ex_if, ex_none, ex_bl, ex_int, ex_str, x_addI, x_addS, x_addT, x_addL, x_sub, x_mul, x_mod, x_div, x_pow, x_lt, x_le, x_gt, x_ge, x_neg, x_int, x_abs, x_min, x_max, x_lenS, x_lenL, x_lenW, x_lenT, x_eqS, x_neS, x_eqI, x_neI, x_isN, x_notN, x_ixL, x_ixW, x_ixT, x_ixS, x_tupL, x_tupT, x_frzL, x_frzT, x_frzW, x_enuL, x_seqL, x_seqT, x_gN, x_g2,
  List.getElem?_cons_zero, List.getElem?_cons_succ, List.set_cons_zero, List.set_cons_succ, List.length_nil, wipeL, decide_eq_true_eq, Bool.not_eq_true', decide_eq_false_iff_not, true_and, and_true])
section
variable {cs : Cells} {l : Loc} {P : Fl → Cells → Prop} {g : XG} {b : XS} {fe : XE}
end
/-- a sequence: a tuple, or a list that may change -/
def SeqD (cs : Cells) (d : D) (fs : List D) : Prop := d = .tup fs ∨ ∃ n, d = .cel n ∧ celL cs n = some fs
theorem SeqD.seq {cs : Cells} {d : D} {fs : List D} (h : SeqD cs d fs) : seqOf cs d = some fs := by
  rcases h with rfl | ⟨n, rfl, e⟩
  · rfl
  · exact e
end F

/-! the shared helpers, what they answer (7) -/
namespace F
open PySem L2
local macro_rules | `(tactic| walk_at "w") => `(tactic| simp only [w_run, w_var, w_c, w_1, w_2, w_N, w_bV, w_bNot, w_bOr, w_bAnd, w_xOr, w_xAnd, w_xNot, w_xIf, w_aNil, w_aCons, w_aStar, w_tup, w_lst, w_tupS, w_lstS, w_lstC, w_listC, w_oNone, w_oSome, w_sl, w_join, w_call, w_chk, w_at, w_lenO, w_chain, w_tru, w_inO, w_xf, w_isX, w_eq, w_lc, w_iSeq, w_iEnu, w_iStr, w_iRng, w_yes,
  s_seq, s_nx, s_set, s_drop, s_ret, s_retN, s_if, s_asg, s_par2, s_par3, s_raise, s_ownC, s_ownL, s_mutO, s_own, s_addO, s_fldO, s_for, s_setI, s_turn,
  ex_some, ex_if, ex_none, ex_bl, ex_int, ex_str, x_addI, x_addS, x_addT, x_addL, x_sub, x_mul, x_mod, x_div, x_pow, x_lt, x_le, x_gt, x_ge, x_neg, x_int, x_abs, x_min, x_max, x_lenS, x_lenL, x_lenW, x_lenT, x_eqS, x_neS, x_eqI, x_neI, x_isN, x_notN, x_ixL, x_ixW, x_ixT, x_ixS, x_tupL, x_tupT, x_frzL, x_frzT, x_frzW, x_enuL, x_seqL, x_seqT, x_gN, x_g2,
  List.getElem?_cons_zero, List.getElem?_cons_succ, List.set_cons_zero, List.set_cons_succ, List.length_nil, wipeL, decide_eq_true_eq, Bool.not_eq_true', decide_eq_false_iff_not, true_and, and_true])
theorem gd {a : Bool} {n : Nat} (h : a = true) (k : n < 900) : (a && decide (n < 900)) = true := by rw [h, decide_eq_true k]; rfl
theorem x_inL {cs : Cells} {x : Str} {ws : List Str} {Q : D → Prop} : (∃ r, dIn cs (.str x) (.lst (ws.map D.str)) = some r ∧ Q r) ↔ Q (.bl (decide (x ∈ ws))) := by
  have e : dIn cs (.str x) (.lst (ws.map D.str)) = some (.bl (decide (x ∈ ws))) := by
    show Option.map D.bl (if (true && (ws.map D.str).all flatD) = true then some ((ws.map D.str).any fun y => eqF y (.str x)) else none) = _
    have h1 : (ws.map D.str).all flatD = true := by
      rw [List.all_map, List.all_eq_true]
      intro w _
      rfl
    have h2 : ((ws.map D.str).any fun y => eqF y (.str x)) = decide (x ∈ ws) := by
      rw [List.any_map, Bool.eq_iff_iff, List.any_eq_true, decide_eq_true_eq]
      constructor
      · rintro ⟨y, hy, e⟩
        have : (y == x) = true := e
        rw [eq_of_beq this] at hy
        exact hy
      · intro h
        exact ⟨x, h, beq_self_eq_true x⟩
    rw [h1, h2]
    rfl
  rw [e]
  exact ex_some
theorem x_slL {cs : Cells} {xs : List D} {a b : Option Int} {Q : D → Prop} : (∃ r, slD (.lst xs) a b cs = some r ∧ Q r) ↔ Q (.lst (cutD xs a b)) := ex_some
def gdD (d : D) : Bool := datD d && (okD d && okR d)
theorem gdD.ok {d : D} (h : gdD d = true) : okD d = true := (Bool.and_eq_true_iff.mp (Bool.and_eq_true_iff.mp h).2).1
def oD : Option Str → D
  | none => .non
  | some x => .str x
theorem isi_t {tb : Tb} {cs : Cells} {fs : List D} {Q : D → Prop} : (∃ r, dIsi tb cs [.tup fs, .ty "tuple"] = some r ∧ Q r) ↔ Q (.bl true) := by
  have e : dIsi tb cs [.tup fs, .ty "tuple"] = some (.bl true) := by
    show (isiB "tuple" "tuple").map D.bl = _
    rfl
  rw [e]
  exact ex_some
section
variable {cs : Cells} {l : Loc} {P : Fl → Cells → Prop} {T : Te} {b : XS} {cl : List Clz} {i : Nat}
end
end F

/-! the second family of helpers (_law_bag, 1299721, 15485867, 4096) -/
namespace F
open PySem L2
def h2_law_bag_2 : XS :=
 (sRet (xLstC (aCons (xVar 3) (aCons (x2 dAdd (x2 dAdd (x2 dMul (x2 dMod (xN dInt (aCons (xVar 2) aNil)) (xC (.int 2305843009213693951))) (xC (.int 7))) (x2 dMul (xC (.int 104729)) (xVar 1))) (xC (.int 5387))) (aCons (xC (.int 0)) aNil)))))
def h2_law_bag_1 : XS :=
 (sSeq (sSet 3 (xIf (bV (x2 dGe (xN dAbs (aCons (xVar 2) aNil)) (x2 dPow (xC (.int 10)) (xC (.int 18))))) (xN dAbs (aCons (xVar 2) aNil)) (xC (.int 0))))
 h2_law_bag_2)
def h2_law_bag : XS :=
 (sSeq (sSet 2 (xIf (bV (x2 dLt (xVar 1) (xN dLen (aCons (xVar 0) aNil)))) (x2 dIx (xVar 0) (xVar 1)) (xC (.int 0))))
 h2_law_bag_1)
def H2_law_bag : List D → List D → EM D := fun ds es => match (arrP 2 0 []) ds es with
  | some bs => fnB 4 h2_law_bag bs
  | none => no
def h2_law_draw_4 : XS :=
 (sRet (x2 dMod (xN dInt (aCons (x2 dDiv (xVar 3) (xC (.int 4096))) aNil)) (xVar 1)))
def h2_law_draw_3 : XS :=
 (sSeq (sSet 3 (x2 dMod (xN dInt (aCons (x2 dPow (x2 dAdd (xVar 3) (x2 dMul (xC (.int 15485867)) (x2 dIx (xVar 0) (xC (.int 2))))) (xC (.int 2))) aNil)) (xC (.int 2305843009213693951))))
 h2_law_draw_4)
def h2_law_draw_2 : XS :=
 (sSeq (sSet 3 (x2 dMod (xN dInt (aCons (x2 dPow (x2 dAdd (x2 dIx (xVar 0) (xC (.int 1))) (x2 dMul (xC (.int 1299721)) (x2 dIx (xVar 0) (xC (.int 2))))) (xC (.int 3))) aNil)) (xC (.int 2305843009213693921))))
 h2_law_draw_3)
def h2_law_draw_1 : XS :=
 (sSeq (sSetI (x2 dAdd (x2 dIx (xVar 0) (xC (.int 2))) (xC (.int 1))) (xVar 0) (xC (.int 2)))
 h2_law_draw_2)
def h2_law_draw : XS :=
 (sSeq (sIf (bV (x2 dGt (x2 dIx (xVar 0) (xC (.int 0))) (xC (.int 0)))) (sSeq (sSet 2 (x2 dMod (xN dInt (aCons (x2 dIx (xVar 0) (xC (.int 0))) aNil)) (xVar 1)))
 (sSeq (sSetI (x2 dDiv (x2 dIx (xVar 0) (xC (.int 0))) (xVar 1)) (xVar 0) (xC (.int 0)))
 (sRet (xVar 2)))) sNx)
 h2_law_draw_1)
def H2_law_draw : List D → List D → EM D := fun ds es => match (arrP 2 0 []) ds es with
  | some bs => fnB 4 h2_law_draw bs
  | none => no
def h2_law_of : XS :=
 (sRet (x2 dIx (xVar 1) (xCall (kChk ([] : List Str).length H2_law_draw) (aCons (xVar 0) (aCons (xN dLen (aCons (xVar 1) aNil)) aNil)) aNil)))
def H2_law_of : List D → List D → EM D := fun ds es => match (arrP 2 0 []) ds es with
  | some bs => fnB 2 h2_law_of bs
  | none => no
local macro_rules | `(tactic| walk_at "w") => `(tactic| simp only [w_run, w_var, w_c, w_1, w_2, w_N, w_bV, w_bNot, w_bOr, w_bAnd, w_xOr, w_xAnd, w_xNot, w_xIf, w_aNil, w_aCons, w_aStar, w_tup, w_lst, w_tupS, w_lstS, w_lstC, w_listC, w_oNone, w_oSome, w_sl, w_join, w_call, w_chk, w_at, w_lenO, w_chain, w_tru, w_inO, w_xf, w_isX, w_eq, w_lc, w_iSeq, w_iEnu, w_iStr, w_iRng, w_yes,
  s_seq, s_nx, s_set, s_drop, s_ret, s_retN, s_if, s_asg, s_par2, s_par3, s_raise, s_ownC, s_ownL, s_mutO, s_own, s_addO, s_fldO, s_for, s_setI, s_turn,
  ex_some, ex_if, ex_none, ex_bl, ex_int, ex_str, x_addI, x_addS, x_addT, x_addL, x_sub, x_mul, x_mod, x_div, x_pow, x_lt, x_le, x_gt, x_ge, x_neg, x_int, x_abs, x_min, x_max, x_lenS, x_lenL, x_lenW, x_lenT, x_eqS, x_neS, x_eqI, x_neI, x_isN, x_notN, x_ixL, x_ixW, x_ixT, x_ixS, x_tupL, x_tupT, x_frzL, x_frzT, x_frzW, x_enuL, x_seqL, x_seqT, x_gN, x_g2,
  List.getElem?_cons_zero, List.getElem?_cons_succ, List.set_cons_zero, List.set_cons_succ, List.length_nil, wipeL, decide_eq_true_eq, Bool.not_eq_true', decide_eq_false_iff_not, true_and, and_true])
theorem log2_lt2 {m : Int} (h : 0 < m) (h1 : m ≤ 100000000000000000000) : m.natAbs.log2 < 9000 := by
  have h2 : m.natAbs < 2 ^ 9000 := Nat.lt_of_le_of_lt (show m.natAbs ≤ 2 ^ 70 by omega) (Nat.pow_lt_pow_right (by decide) (by decide))
  by_cases z : m.natAbs = 0
  · rw [z]; decide
  · exact (Nat.log2_lt z).mpr h2
theorem draw2_wp {cs : Cells} {b n : Nat} {m : Int} {Q : D → Cells → Prop} {E : Exn → Cells → Prop} (hb : Bag cs b (n + 1)) (h0 : 0 < m) (h1 : m ≤ 100000000000000000000) (k : ∀ r cs', 0 ≤ r → r < m → Bag cs' b n → Kp b cs cs' → Q (.int r) cs') : wp (H2_law_draw [.cel b, .int m] []) cs Q E := by
  obtain ⟨d, mm, c, e, bo⟩ := hb
  have hl : b < cs.length := (List.getElem?_eq_some_iff.mp e).1
  have e1 := celL_of e
  obtain ⟨d0, m0, m1, c0, c1⟩ := bo
  show wp (runB h2_law_draw [.val (.cel b), .val (.int m), .emp, .emp]) cs Q E
  have i0 : ∀ {Q : D → Prop}, (∃ r, dIx cs (.cel b) (.int 0) = some r ∧ Q r) ↔ Q (.int d) := x_ixC (k := 0) e1 rfl
  have i1 : ∀ {Q : D → Prop}, (∃ r, dIx cs (.cel b) (.int 1) = some r ∧ Q r) ↔ Q (.int mm) := x_ixC (k := 1) e1 rfl
  have i2 : ∀ {Q : D → Prop}, (∃ r, dIx cs (.cel b) (.int 2) = some r ∧ Q r) ↔ Q (.int c) := x_ixC (k := 2) e1 rfl
  have sm : cMod (0 : Int) m = true := by unfold cMod; simpa using h0
  unfold h2_law_draw
  walk_at "w"
  simp only [i0]
  walk_at "w"
  by_cases p : 0 < d
  · simp only [p, decide_true, if_true]
    try walk_at "w"
    try simp only [i0]
    try walk_at "w"
    refine ⟨by unfold cMod; simpa using h0, by unfold cDiv; simp only [Bool.and_eq_true, decide_eq_true_eq]; exact ⟨h0, log2_lt2 h0 h1⟩, ?_⟩
    rw [show (0 : Int) = ((0 : Nat) : Int) from rfl, wp_setC e1 (by simp)]
    refine k _ _ (Int.emod_nonneg _ (by omega)) (Int.emod_lt_of_pos _ h0) ⟨d / m, mm, c, ?_, ⟨?_, m0, m1, c0, by omega⟩⟩ Kp.set
    · rw [List.getElem?_set_self hl]; rfl
    · exact Int.ediv_nonneg d0 (by omega)
  · simp only [p, decide_false, Bool.false_eq_true, if_false]
    unfold h2_law_draw_1
    try walk_at "w"
    try simp only [i2]
    try walk_at "w"
    rw [show (2 : Int) = ((2 : Nat) : Int) from rfl, wp_setC e1 (by simp)]
    have e2 : celL (cs.set b (.lst [.int d, .int mm, .int (c + 1)])) b = some [.int d, .int mm, .int (c + 1)] := celL_of (List.getElem?_set_self hl)
    have j1 : ∀ {Q : D → Prop}, (∃ r, dIx (cs.set b (.lst [.int d, .int mm, .int (c + 1)])) (.cel b) (.int 1) = some r ∧ Q r) ↔ Q (.int mm) := x_ixC (k := 1) e2 rfl
    have j2 : ∀ {Q : D → Prop}, (∃ r, dIx (cs.set b (.lst [.int d, .int mm, .int (c + 1)])) (.cel b) (.int 2) = some r ∧ Q r) ↔ Q (.int (c + 1)) := x_ixC (k := 2) e2 rfl
    show wpS (h2_law_draw_2 _ (cs.set b (.lst [.int d, .int mm, .int (c + 1)]))) _
    unfold h2_law_draw_2 h2_law_draw_3 h2_law_draw_4
    try walk_at "w"
    try simp only [j1, j2]
    try walk_at "w"
    try simp only [j1, j2]
    try walk_at "w"
    have q1 := Int.emod_nonneg ((mm + 1299721 * (c + 1)) ^ Int.toNat 3) (show (2305843009213693921 : Int) ≠ 0 by decide)
    have q2 := Int.emod_lt_of_pos ((mm + 1299721 * (c + 1)) ^ Int.toNat 3) (show (0 : Int) < 2305843009213693921 by decide)
    refine ⟨?_, ?_, ?_, ?_, ?_, ?_, ?_, ?_, ?_⟩
    · unfold cMul; rfl
    · unfold cPow; simp only [Bool.and_eq_true, decide_eq_true_eq]; omega
    · rfl
    · unfold cMul; rfl
    · unfold cPow; simp only [Bool.and_eq_true, decide_eq_true_eq]; omega
    · rfl
    · unfold cDiv; rfl
    · unfold cMod; simpa using h0
    · refine k _ _ (Int.emod_nonneg _ (by omega)) (Int.emod_lt_of_pos _ h0) ⟨d, mm, c + 1, List.getElem?_set_self hl, ⟨d0, m0, m1, by omega, by omega⟩⟩ Kp.set
theorem bag2_wp {cs : Cells} {ns : List Int} {k : Nat} {Q : D → Cells → Prop} {E : Exn → Cells → Prop} (hk : k ≤ 100) (q : ∀ cs', Bag cs' cs.length 1000000 → cs'.length = cs.length + 1 → (∀ j, j < cs.length → cs'[j]? = cs[j]?) → Q (.cel cs.length) cs') : wp (H2_law_bag [.wls (ns.map D.int), .int (k : Int)] []) cs Q E := by
  show wp (runB h2_law_bag [.val (.wls (ns.map D.int)), .val (.int (k : Int)), .emp, .emp]) cs Q E
  have fin : ∀ z : Int, wpS (h2_law_bag_1 [.val (.wls (ns.map D.int)), .val (.int (k : Int)), .val (.int z), .emp] cs) fun fl cs' => match fl with
    | .ret d => Q d cs'
    | .nx _ => Q .non cs'
    | .ex x _ => E x cs'
    | _ => False := by
    intro z
    unfold h2_law_bag_1
    walk_at "w"
    refine ⟨by rfl, ?_⟩
    have fin2 : ∀ y : Int, 0 ≤ y → wpS (h2_law_bag_2 [.val (.wls (ns.map D.int)), .val (.int (k : Int)), .val (.int z), .val (.int y)] cs) fun fl cs' => match fl with
      | .ret d => Q d cs'
      | .nx _ => Q .non cs'
      | .ex x _ => E x cs'
      | _ => False := by
      intro y hy
      unfold h2_law_bag_2
      walk_at "w"
      have h1 := Int.emod_nonneg z (show (2305843009213693951 : Int) ≠ 0 by decide)
      have h2 := Int.emod_lt_of_pos z (show (0 : Int) < 2305843009213693951 by decide)
      refine ⟨by rfl, ?_, ?_, q _ ⟨y, _, 0, List.getElem?_concat_length, hy, ?_, ?_, by decide, by decide⟩ (by simp) fun j hj => List.getElem?_append_left hj⟩
      · unfold cMul; simp
      · unfold cMul; simp
      · omega
      · omega
    rw [pow10_18]
    by_cases p : (1000000000000000000 : Int) ≤ if z < 0 then -z else z
    · simp only [p, if_true]
      exact fin2 _ (by omega)
    · simp only [p, if_false]
      exact fin2 _ (by omega)
  unfold h2_law_bag
  walk_at "w"
  by_cases p : ((k : Nat) : Int) < ((ns.map D.int).length : Int)
  · simp only [p, if_true]
    have hl : k < ns.length := by simp at p; omega
    rw [atI_nat (x := D.int ns[k]) (by simp [hl])]
    walk_at "w"
    exact fin _
  · simp only [p, if_false]
    exact fin 0
theorem of2_wp {cs : Cells} {b n : Nat} {xs : List D} {Q : D → Cells → Prop} {E : Exn → Cells → Prop} (hb : Bag cs b (n + 1)) (h0 : xs ≠ []) (h1 : xs.length ≤ 1000) (k : ∀ (i : Nat) x cs', xs[i]? = some x → Bag cs' b n → Kp b cs cs' → Q x cs') : wp (H2_law_of [.cel b, .lst xs] []) cs Q E := by
  show wp (runB h2_law_of [.val (.cel b), .val (.lst xs)]) cs Q E
  have hl := List.length_pos_iff.mpr h0
  unfold h2_law_of
  walk_at "w"
  refine draw2_wp hb (by omega) (by omega) fun r cs' r0 r1 hb' kp => ?_
  obtain ⟨t, rfl⟩ : ∃ t : Nat, r = (t : Int) := ⟨r.toNat, by omega⟩
  have ht : t < xs.length := by omega
  have e : xs[t]? = some xs[t] := List.getElem?_eq_getElem ht
  rw [x_ixL, atI_nat e]
  walk_at "w"
  exact k t _ cs' e hb' kp
end F

/-! the words of F25, F26; == of nested data -/
namespace F
open PySem L2
section
variable {cs : Cells} {l : Loc} {Q : D → Cells → Prop} {U : List D → Cells → Prop} {E : Exn → Cells → Prop} {P : Fl → Cells → Prop} {fa fb : XE} {i : Nat} {t : EqT}
theorem w_notT : wp (xNotT fa l) cs Q E ↔ wp (fa l) cs (fun d cs1 => ∃ b, truD cs1 d = some b ∧ Q (.bl (!b)) cs1) E := by
  unfold xNotT bTru
  simp only [wp_bd, wp_rd, wp_rt]
theorem w_binI : wp (xBinI t fa fb l) cs Q E ↔ wp (fa l) cs (fun x cs1 => wp (fb l) cs1 (fun y cs2 => wp (binDyn t x y) cs2 Q E) E) E := by
  unfold xBinI
  simp only [wp_bd]
theorem w_lenI : wp (xLenI t fa l) cs Q E ↔ wp (fa l) cs (fun x cs1 => wp (lenDyn t x) cs1 Q fun _ _ => False) E := by
  unfold xLenI
  simp only [wp_bd, w_nox]
theorem w_inI {neg : Bool} : wp (xInI t neg fa fb l) cs Q E ↔ wp (fa l) cs (fun x cs1 => wp (fb l) cs1 (fun y cs2 => wp (inDyn t neg x y) cs2 Q fun _ _ => False) E) E := by
  unfold xInI
  simp only [wp_bd, w_nox]
theorem w_prop : wp (xProp t fa l) cs Q E ↔ wp (fa l) cs (fun x cs1 => wp (propDyn t x) cs1 Q fun _ _ => False) E := by
  unfold xProp
  simp only [wp_bd, w_nox]
def enuT : D → Option (List D)
  | .tup xs => some (numbered 0 xs)
  | _ => none
theorem w_iEnuT : wp (iEnuT fa l) cs U E ↔ wp (fa l) cs (fun d cs1 => ∃ r, enuT d = some r ∧ U r cs1) E := by
  unfold iEnuT
  simp only [wp_bd, wp_rd]
  refine wp_iff (fun d cs' => ?_) fun _ _ => Iff.rfl
  cases d <;> exact Iff.rfl
theorem x_enuT {xs : List D} {Q : List D → Prop} : (∃ r, enuT (.tup xs) = some r ∧ Q r) ↔ Q (numbered 0 xs) := ex_some
theorem w_callS {F : List D → List D → EM D} {f2 : XA} : wp (xCallS F fa f2 l) cs Q E ↔ wp (fa l) cs (fun y cs1 => wp (f2 l) cs1 (fun ks cs2 => ∃ ds, seqOf cs2 y = some ds ∧ wp (F ds ks) cs2 Q E) E) E := by
  unfold xCallS
  simp only [wp_bd, wp_rd]
theorem x_listT {xs : List D} {Q : D → Prop} : (∃ r, dList cs [.tup xs] = some r ∧ Q r) ↔ Q (.lst xs) := ex_some
theorem x_truL {xs : List D} {Q : Bool → Prop} : (∃ r, truD cs (.lst xs) = some r ∧ Q r) ↔ Q (!xs.isEmpty) := ex_some
theorem x_slT {xs : List D} {a b : Option Int} {Q : D → Prop} : (∃ r, slD (.tup xs) a b cs = some r ∧ Q r) ↔ Q (.tup (cutD xs a b)) := ex_some
end
/-! == of data of a bounded depth -/
def okN (n : Nat) (d : D) : Bool := match toP0 d with
  | some p => p.canLay0 && (decide (p.depth ≤ n) && PyData.eqv p p)
  | none => false
theorem okN_int {i : Int} {n : Nat} : okN n (.int i) = true := by
  show (true && (decide (0 ≤ n) && PyData.eqv (.int i) (.int i))) = true
  simp [PyData.eqv]
def dqA (xs ys : List D) : Bool := match toPs xs, toPs ys with
  | some ps, some qs => PyData.eqvAll ps qs
  | _, _ => false
theorem dqA_self {xs : List D} (hx : ∀ d ∈ xs, okD d = true) : dqA xs xs = true := by
  obtain ⟨ps, e, a, b, c, _⟩ := toPs_ok hx
  unfold dqA
  rw [e]
  exact c
/-! cells that are added -/
theorem Bag.lt {cs : Cells} {b n : Nat} (h : Bag cs b n) : b < cs.length := by
  obtain ⟨d, m, c, e, o⟩ := h
  exact (List.getElem?_eq_some_iff.mp e).1
theorem Bag.put {cs : Cells} {b n k : Nat} {o : C} (h : Bag cs b n) (ne : k ≠ b) : Bag (cs.set k o) b n := by
  obtain ⟨d, m, c, e, q⟩ := h
  exact ⟨d, m, c, by rw [List.getElem?_set_ne ne]; exact e, q⟩
end F

/-! data of a bounded depth: what isinstance and == answer -/
namespace F
open PySem L2
/-! isinstance -/
def isBl : D → Bool
  | .bl _ => true
  | _ => false
section
variable {tb : Tb} {cs : Cells} {d : D} {Q : D → Prop}
theorem isi_bD (h : datD d = true) : (∃ r, dIsi tb cs [d, .ty "bool"] = some r ∧ Q r) ↔ Q (.bl (isBl d)) := by
  have e : dIsi tb cs [d, .ty "bool"] = some (.bl (isBl d)) := by
    cases d <;> first | rfl | cases h
  rw [e]
  exact ex_some
end
/-! == with a text -/
end F

namespace F
open PySem L2
local macro_rules | `(tactic| walk_at "w") => `(tactic| simp only [w_run, w_var, w_c, w_1, w_2, w_N, w_bV, w_bNot, w_bOr, w_bAnd, w_xOr, w_xAnd, w_xNot, w_xIf, w_aNil, w_aCons, w_aStar, w_tup, w_lst, w_tupS, w_lstS, w_lstC, w_listC, w_oNone, w_oSome, w_sl, w_join, w_call, w_callS, w_chk, w_at, w_lenO, w_chain, w_tru, w_inO, w_xf, w_isX, w_eq, w_lc, w_iSeq, w_iEnu, w_iStr, w_iRng, w_yes, w_notT, w_binI, w_lenI, w_iEnuT,
  s_seq, s_nx, s_set, s_drop, s_ret, s_retN, s_if, s_asg, s_par2, s_par3, s_raise, s_ownC, s_ownL, s_mutO, s_own, s_addO, s_fldO, s_for, s_setI, s_turn,
  ex_some, ex_if, ex_none, ex_bl, ex_int, ex_str, x_addI, x_addS, x_addT, x_addL, x_sub, x_mul, x_mod, x_div, x_pow, x_lt, x_le, x_gt, x_ge, x_neg, x_int, x_abs, x_min, x_max, x_lenS, x_lenL, x_lenW, x_lenT, x_eqS, x_neS, x_eqI, x_neI, x_isN, x_notN, x_ixL, x_ixW, x_ixT, x_ixS, x_tupL, x_tupT, x_frzL, x_frzT, x_frzW, x_enuL, x_enuT, x_seqL, x_seqT, x_gN, x_g2, x_listT, x_truL, x_slT, x_lenT,
  List.getElem?_cons_zero, List.getElem?_cons_succ, List.set_cons_zero, List.set_cons_succ, List.length_nil, wipeL, decide_eq_true_eq, Bool.not_eq_true', decide_eq_false_iff_not, true_and, and_true])
/-! the forms of places, wheres, steps of erasures: by the program and by the law -/
def rng02 : D → Bool
  | .int i => decide (0 ≤ i) && decide (i ≤ 2)
  | _ => false
def plB : D → Bool
  | .tup [a, b] => rng02 a && isNm b
  | _ => false
section
variable {tb : Tb} {cs : Cells} {n : Nat} {d : D} {Q : D → Cells → Prop} {E : Exn → Cells → Prop}
end
end F

namespace F
open PySem L2
local macro_rules | `(tactic| walk_at "w") => `(tactic| simp only [w_run, w_var, w_c, w_1, w_2, w_N, w_bV, w_bNot, w_bOr, w_bAnd, w_xOr, w_xAnd, w_xNot, w_xIf, w_aNil, w_aCons, w_aStar, w_tup, w_lst, w_tupS, w_lstS, w_lstC, w_listC, w_oNone, w_oSome, w_sl, w_join, w_call, w_callS, w_chk, w_at, w_lenO, w_chain, w_tru, w_inO, w_xf, w_isX, w_eq, w_lc, w_iSeq, w_iEnu, w_iStr, w_iRng, w_yes, w_notT, w_binI, w_lenI, w_iEnuT,
  s_seq, s_nx, s_set, s_drop, s_ret, s_retN, s_if, s_asg, s_par2, s_par3, s_raise, s_ownC, s_ownL, s_mutO, s_own, s_addO, s_fldO, s_for, s_setI, s_turn,
  ex_some, ex_if, ex_none, ex_bl, ex_int, ex_str, x_addI, x_addS, x_addT, x_addL, x_sub, x_mul, x_mod, x_div, x_pow, x_lt, x_le, x_gt, x_ge, x_neg, x_int, x_abs, x_min, x_max, x_lenS, x_lenL, x_lenW, x_lenT, x_eqS, x_neS, x_eqI, x_neI, x_isN, x_notN, x_ixL, x_ixW, x_ixT, x_ixS, x_tupL, x_tupT, x_frzL, x_frzT, x_frzW, x_enuL, x_enuT, x_seqL, x_seqT, x_gN, x_g2, x_listT, x_truL, x_slT, x_lenT,
  List.getElem?_cons_zero, List.getElem?_cons_succ, List.set_cons_zero, List.set_cons_succ, List.length_nil, wipeL, decide_eq_true_eq, Bool.not_eq_true', decide_eq_false_iff_not, true_and, and_true])
/-! data of bounded depth and width: odd objects, what is spoilt, what is the same -/
def gwN (w : Nat) : Nat → D → Bool
  | _, .non => true
  | _, .bl _ => true
  | _, .int _ => true
  | _, .str x => PyData.strOk x
  | n + 1, .tup ds => decide (ds.length ≤ w) && ds.all (gwN w n)
  | n + 1, .lst ds => decide (ds.length ≤ w) && ds.all (gwN w n)
  | _, _ => false
theorem gwN_tup {w n : Nat} {ds : List D} : gwN w (n + 1) (.tup ds) = true ↔ ds.length ≤ w ∧ ∀ d ∈ ds, gwN w n d = true := by
  rw [gwN, Bool.and_eq_true, List.all_eq_true, decide_eq_true_eq]
theorem gwN_lst {w n : Nat} {ds : List D} : gwN w (n + 1) (.lst ds) = true ↔ ds.length ≤ w ∧ ∀ d ∈ ds, gwN w n d = true := by
  rw [gwN, Bool.and_eq_true, List.all_eq_true, decide_eq_true_eq]
theorem gwN_mono {w w' : Nat} (hw : w ≤ w') : ∀ {n m : Nat} {d : D}, gwN w n d = true → n ≤ m → gwN w' m d = true
  | n, m, .non, _, _ => by cases m <;> rfl
  | n, m, .bl b, _, _ => by cases m <;> rfl
  | n, m, .int i, _, _ => by cases m <;> rfl
  | n, m, .str x, h, _ => by
    have h : PyData.strOk x = true := by cases n <;> simpa [gwN] using h
    cases m <;> simpa [gwN] using h
  | 0, m, .tup ds, h, _ => by simp [gwN] at h
  | n + 1, 0, .tup ds, h, le => by omega
  | n + 1, m + 1, .tup ds, h, le => gwN_tup.mpr ⟨Nat.le_trans (gwN_tup.mp h).1 hw, fun d hd => gwN_mono hw ((gwN_tup.mp h).2 d hd) (by omega)⟩
  | 0, m, .lst ds, h, _ => by simp [gwN] at h
  | n + 1, 0, .lst ds, h, le => by omega
  | n + 1, m + 1, .lst ds, h, le => gwN_lst.mpr ⟨Nat.le_trans (gwN_lst.mp h).1 hw, fun d hd => gwN_mono hw ((gwN_lst.mp h).2 d hd) (by omega)⟩
  | n, m, .wls ds, h, _ => by cases n <;> simp [gwN] at h
  | n, m, .ins c fs, h, _ => by cases n <;> simp [gwN] at h
  | n, m, .cel c, h, _ => by cases n <;> simp [gwN] at h
  | n, m, .cls c, h, _ => by cases n <;> simp [gwN] at h
  | n, m, .dct c, h, _ => by cases n <;> simp [gwN] at h
  | n, m, .ty c, h, _ => by cases n <;> simp [gwN] at h
section
variable {tb : Tb} {cs : Cells} {b N : Nat} {Q : D → Cells → Prop} {E : Exn → Cells → Prop}
end
end F

namespace F
open PySem L2
local macro_rules | `(tactic| walk_at "w") => `(tactic| simp only [w_run, w_var, w_c, w_1, w_2, w_N, w_bV, w_bNot, w_bOr, w_bAnd, w_xOr, w_xAnd, w_xNot, w_xIf, w_aNil, w_aCons, w_aStar, w_tup, w_lst, w_tupS, w_lstS, w_lstC, w_listC, w_oNone, w_oSome, w_sl, w_join, w_call, w_callS, w_chk, w_at, w_lenO, w_chain, w_tru, w_inO, w_xf, w_isX, w_eq, w_lc, w_iSeq, w_iEnu, w_iStr, w_iRng, w_yes, w_notT, w_binI, w_lenI, w_iEnuT,
  s_seq, s_nx, s_set, s_drop, s_ret, s_retN, s_if, s_asg, s_par2, s_par3, s_raise, s_ownC, s_ownL, s_mutO, s_own, s_addO, s_fldO, s_for, s_setI, s_turn,
  ex_some, ex_if, ex_none, ex_bl, ex_int, ex_str, x_addI, x_addS, x_addT, x_addL, x_sub, x_mul, x_mod, x_div, x_pow, x_lt, x_le, x_gt, x_ge, x_neg, x_int, x_abs, x_min, x_max, x_lenS, x_lenL, x_lenW, x_lenT, x_eqS, x_neS, x_eqI, x_neI, x_isN, x_notN, x_ixL, x_ixW, x_ixT, x_ixS, x_tupL, x_tupT, x_frzL, x_frzT, x_frzW, x_enuL, x_enuT, x_seqL, x_seqT, x_gN, x_g2, x_listT, x_truL, x_slT, x_lenT,
  List.getElem?_cons_zero, List.getElem?_cons_succ, List.set_cons_zero, List.set_cons_succ, List.length_nil, wipeL, decide_eq_true_eq, Bool.not_eq_true', decide_eq_false_iff_not, true_and, and_true])
/-! steps of erasures as they are drawn -/
/-! == of lists -/
theorem eqB_dqL {cs : Cells} {xs ys : List D} (hx : ∀ d ∈ xs, okD d = true) (hy : ∀ d ∈ ys, okD d = true) : eqB cs (.lst xs) (.lst ys) = some (dqA xs ys) := by
  obtain ⟨ps, e, a, b, c, _⟩ := toPs_ok hx
  obtain ⟨qs, e', a', b', c', _⟩ := toPs_ok hy
  unfold dqA
  show eqP cs (.lst xs) (.lst ys) = _
  rw [eqP_of (p := .list ps) (q := .list qs) (toP_lst e) (toP_lst e') (shapedL a b) (shapedL a' b'), PyData.eqv, e, e']
theorem okD_int {i : Int} : okD (.int i) = true := okN_int
end F

namespace F
open PySem L2
local macro_rules | `(tactic| walk_at "w") => `(tactic| simp only [w_run, w_var, w_c, w_1, w_2, w_N, w_bV, w_bNot, w_bOr, w_bAnd, w_xOr, w_xAnd, w_xNot, w_xIf, w_aNil, w_aCons, w_aStar, w_tup, w_lst, w_tupS, w_lstS, w_lstC, w_listC, w_oNone, w_oSome, w_sl, w_join, w_call, w_callS, w_chk, w_at, w_lenO, w_chain, w_tru, w_inO, w_xf, w_isX, w_eq, w_lc, w_iSeq, w_iEnu, w_iStr, w_iRng, w_yes, w_notT, w_binI, w_lenI, w_iEnuT,
  s_seq, s_nx, s_set, s_drop, s_ret, s_retN, s_if, s_asg, s_par2, s_par3, s_raise, s_ownC, s_ownL, s_mutO, s_own, s_addO, s_fldO, s_for, s_setI, s_turn,
  ex_some, ex_if, ex_none, ex_bl, ex_int, ex_str, x_addI, x_addS, x_addT, x_addL, x_sub, x_mul, x_mod, x_div, x_pow, x_lt, x_le, x_gt, x_ge, x_neg, x_int, x_abs, x_min, x_max, x_lenS, x_lenL, x_lenW, x_lenT, x_eqS, x_neS, x_eqI, x_neI, x_isN, x_notN, x_ixL, x_ixW, x_ixT, x_ixS, x_tupL, x_tupT, x_frzL, x_frzT, x_frzW, x_enuL, x_enuT, x_seqL, x_seqT, x_gN, x_g2, x_listT, x_truL, x_slT, x_lenT,
  List.getElem?_cons_zero, List.getElem?_cons_succ, List.set_cons_zero, List.set_cons_succ, List.length_nil, wipeL, decide_eq_true_eq, Bool.not_eq_true', decide_eq_false_iff_not, true_and, and_true])
/-! the forms of a handler's steps: by the program and by the law -/
section
variable {cs : Cells} {l : Loc} {Q : D → Cells → Prop} {R : Bool → Cells → Prop} {E : Exn → Cells → Prop} {t : EqT} {n i : Nat} {fa fk : XA} {fe : XE}
theorem any_str {ws : List Str} {x : Str} : ((ws.map D.str).any fun y => eqF y (.str x)) = decide (x ∈ ws) := by
  rw [List.any_map, Bool.eq_iff_iff, List.any_eq_true, decide_eq_true_eq]
  constructor
  · rintro ⟨y, hy, e⟩
    have : (y == x) = true := e
    rw [eq_of_beq this] at hy
    exact hy
  · intro h
    exact ⟨x, h, beq_self_eq_true x⟩
theorem all_flat {ws : List Str} : (ws.map D.str).all flatD = true := by
  rw [List.all_map, List.all_eq_true]
  intro w _
  rfl
theorem x_inT {x : Str} {ws : List Str} {Q : D → Prop} : (∃ r, dIn cs (.str x) (.tup (ws.map D.str)) = some r ∧ Q r) ↔ Q (.bl (decide (x ∈ ws))) := by
  have e : dIn cs (.str x) (.tup (ws.map D.str)) = some (.bl (decide (x ∈ ws))) := by
    show Option.map D.bl (if (true && (ws.map D.str).all flatD) = true then some ((ws.map D.str).any fun y => eqF y (.str x)) else none) = _
    rw [all_flat, any_str]
    rfl
  rw [e]
  exact ex_some
end
def endB (d : D) : Bool := isNm d || plB d
def toB (d : D) : Bool := isNon d || endB d
def keyS : D → Str
  | .tup [.str k, _] => k
  | _ => ""
section
variable {tb : Tb} {cs : Cells} {n : Nat} {d : D} {Q : D → Cells → Prop} {E : Exn → Cells → Prop}
end
section
variable {tb : Tb} {cs : Cells} {n : Nat} {d : D} {Q : D → Cells → Prop} {E : Exn → Cells → Prop}
end
end F

namespace F
open PySem L2
local macro_rules | `(tactic| walk_at "w") => `(tactic| simp only [w_run, w_var, w_c, w_1, w_2, w_N, w_bV, w_bNot, w_bOr, w_bAnd, w_xOr, w_xAnd, w_xNot, w_xIf, w_aNil, w_aCons, w_aStar, w_tup, w_lst, w_tupS, w_lstS, w_lstC, w_listC, w_oNone, w_oSome, w_sl, w_join, w_call, w_callS, w_chk, w_at, w_lenO, w_chain, w_tru, w_inO, w_xf, w_isX, w_eq, w_lc, w_iSeq, w_iEnu, w_iStr, w_iRng, w_yes, w_notT, w_binI, w_lenI, w_iEnuT,
  s_seq, s_nx, s_set, s_drop, s_ret, s_retN, s_if, s_asg, s_par2, s_par3, s_raise, s_ownC, s_ownL, s_mutO, s_own, s_addO, s_fldO, s_for, s_setI, s_turn,
  ex_some, ex_if, ex_none, ex_bl, ex_int, ex_str, x_addI, x_addS, x_addT, x_addL, x_sub, x_mul, x_mod, x_div, x_pow, x_lt, x_le, x_gt, x_ge, x_neg, x_int, x_abs, x_min, x_max, x_lenS, x_lenL, x_lenW, x_lenT, x_eqS, x_neS, x_eqI, x_neI, x_isN, x_notN, x_ixL, x_ixW, x_ixT, x_ixS, x_tupL, x_tupT, x_frzL, x_frzT, x_frzW, x_enuL, x_enuT, x_seqL, x_seqT, x_gN, x_g2, x_listT, x_truL, x_slT, x_lenT,
  List.getElem?_cons_zero, List.getElem?_cons_succ, List.set_cons_zero, List.set_cons_succ, List.length_nil, wipeL, decide_eq_true_eq, Bool.not_eq_true', decide_eq_false_iff_not, true_and, and_true])
/-! words of F32, F33, F34; joins of texts -/
section
variable {cs : Cells} {l : Loc} {Q : D → Cells → Prop} {E : Exn → Cells → Prop} {fa fb : XE} {t : EqT}
theorem w_strI : wp (xStrI t fa l) cs Q E ↔ wp (fa l) cs (fun x cs1 => wp (spDyn t asTx x) cs1 Q fun _ _ => False) E := by
  unfold xStrI
  simp only [wp_bd, w_nox]
theorem w_boolI : wp (xBoolI t fa l) cs Q E ↔ wp (fa l) cs (fun x cs1 => wp (spDyn t asBl x) cs1 Q fun _ _ => False) E := by
  unfold xBoolI
  simp only [wp_bd, w_nox]
theorem w_js0 {acc : Str} : wp (xJs [] acc l) cs Q E ↔ Q (.str acc) cs := Iff.rfl
theorem w_js {f : XE} {fs : List XE} {acc : Str} : wp (xJs (f :: fs) acc l) cs Q E ↔ wp (f l) cs (fun d cs1 => ∃ y, d = .str y ∧ (acc ++ y).length ≤ sizeLine ∧ wp (xJs fs (acc ++ y) l) cs1 Q E) E := by
  rw [xJs]
  rw [wp_bd]
  refine wp_iff (fun d cs' => ?_) fun _ _ => Iff.rfl
  cases d with
  | str y =>
    show wp (if (acc ++ y).length ≤ sizeLine then xJs fs (acc ++ y) l else no) cs' Q E ↔ _
    split
    · rename_i h
      exact ⟨fun z => ⟨y, rfl, h, z⟩, fun ⟨_, e, _, z⟩ => by cases e; exact z⟩
    · rename_i h
      exact ⟨fun z => z.elim, fun ⟨_, e, z, _⟩ => by cases e; exact absurd z h⟩
  | _ => exact ⟨fun z => z.elim, fun ⟨_, e, _⟩ => nomatch e⟩
theorem w_addC : wp (xAddC fa fb l) cs Q E ↔ wp (fa l) cs (fun x cs1 => wp (fb l) cs1 (fun y cs2 => ∃ zs, catC cs2 x y = some zs ∧ Q (.cel cs2.length) (cs2 ++ [.lst zs])) E) E := by
  unfold xAddC
  simp only [wp_bd, wp_rd, wp_newC]
end
section
variable {cs : Cells} {Q : D → Prop}
theorem x_fmt {x : Str} : (∃ r, dFmt cs (.str x) = some r ∧ Q r) ↔ Q (.str x) := ex_some
theorem x_boolT {xs : List D} : (∃ r, dBoolQ cs (.tup xs) = some r ∧ Q r) ↔ Q (.bl (!xs.isEmpty)) := ex_some
theorem x_eqBl {a b : Bool} : (∃ r, dEq cs (.bl a) (.bl b) = some r ∧ Q r) ↔ Q (.bl (decide (a = b))) := by
  cases a <;> cases b <;> exact ex_some
theorem x_neBl {a b : Bool} : (∃ r, dNe cs (.bl a) (.bl b) = some r ∧ Q r) ↔ Q (.bl (!decide (a = b))) := by
  cases a <;> cases b <;> exact ex_some
theorem isi_bB {tb : Tb} {b : Bool} : (∃ r, dIsi tb cs [.bl b, .ty "bool"] = some r ∧ Q r) ↔ Q (.bl true) := isi_bD (d := .bl b) rfl
end
section
variable {cs : Cells} {Q : D → Prop} {sep : Str} {ws : List Str}
end
end F

namespace F
open PySem L2
local macro_rules | `(tactic| walk_at "w") => `(tactic| simp only [w_run, w_var, w_c, w_1, w_2, w_N, w_bV, w_bNot, w_bOr, w_bAnd, w_xOr, w_xAnd, w_xNot, w_xIf, w_aNil, w_aCons, w_aStar, w_tup, w_lst, w_tupS, w_lstS, w_lstC, w_listC, w_oNone, w_oSome, w_sl, w_join, w_call, w_callS, w_chk, w_at, w_lenO, w_chain, w_tru, w_inO, w_xf, w_isX, w_eq, w_lc, w_iSeq, w_iEnu, w_iStr, w_iRng, w_yes, w_notT, w_binI, w_lenI, w_iEnuT,
  s_seq, s_nx, s_set, s_drop, s_ret, s_retN, s_if, s_asg, s_par2, s_par3, s_raise, s_ownC, s_ownL, s_mutO, s_own, s_addO, s_fldO, s_for, s_setI, s_turn,
  ex_some, ex_if, ex_none, ex_bl, ex_int, ex_str, x_addI, x_addS, x_addT, x_addL, x_sub, x_mul, x_mod, x_div, x_pow, x_lt, x_le, x_gt, x_ge, x_neg, x_int, x_abs, x_min, x_max, x_lenS, x_lenL, x_lenW, x_lenT, x_eqS, x_neS, x_eqI, x_neI, x_isN, x_notN, x_ixL, x_ixW, x_ixT, x_ixS, x_tupL, x_tupT, x_frzL, x_frzT, x_frzW, x_enuL, x_enuT, x_seqL, x_seqT, x_gN, x_g2, x_listT, x_truL, x_slT, x_lenT,
  List.getElem?_cons_zero, List.getElem?_cons_succ, List.set_cons_zero, List.set_cons_succ, List.length_nil, wipeL, decide_eq_true_eq, Bool.not_eq_true', decide_eq_false_iff_not, true_and, and_true])
/-! texts of values -/
/-- the codes of a row of names -/
def row (vs : List Str) : List Nat := TL.joinL [32] (vs.map fun x => x.cps.toList)
end F

namespace F
open PySem L2
local macro_rules | `(tactic| walk_at "w") => `(tactic| simp only [w_run, w_var, w_c, w_1, w_2, w_N, w_bV, w_bNot, w_bOr, w_bAnd, w_xOr, w_xAnd, w_xNot, w_xIf, w_aNil, w_aCons, w_aStar, w_tup, w_lst, w_tupS, w_lstS, w_lstC, w_listC, w_oNone, w_oSome, w_sl, w_join, w_call, w_callS, w_chk, w_at, w_lenO, w_chain, w_tru, w_inO, w_xf, w_isX, w_eq, w_lc, w_iSeq, w_iEnu, w_iStr, w_iRng, w_yes, w_notT, w_binI, w_lenI, w_iEnuT,
  s_seq, s_nx, s_set, s_drop, s_ret, s_retN, s_if, s_asg, s_par2, s_par3, s_raise, s_ownC, s_ownL, s_mutO, s_own, s_addO, s_fldO, s_for, s_setI, s_turn,
  ex_some, ex_if, ex_none, ex_bl, ex_int, ex_str, x_addI, x_addS, x_addT, x_addL, x_sub, x_mul, x_mod, x_div, x_pow, x_lt, x_le, x_gt, x_ge, x_neg, x_int, x_abs, x_min, x_max, x_lenS, x_lenL, x_lenW, x_lenT, x_eqS, x_neS, x_eqI, x_neI, x_isN, x_notN, x_ixL, x_ixW, x_ixT, x_ixS, x_tupL, x_tupT, x_frzL, x_frzT, x_frzW, x_enuL, x_enuT, x_seqL, x_seqT, x_gN, x_g2, x_listT, x_truL, x_slT, x_lenT,
  List.getElem?_cons_zero, List.getElem?_cons_succ, List.set_cons_zero, List.set_cons_succ, List.length_nil, wipeL, decide_eq_true_eq, Bool.not_eq_true', decide_eq_false_iff_not, true_and, and_true])
/-! texts of values: what they say -/
theorem w_tm {g : Str → D → Option D} {fa fb : XE} {l : Loc} {cs : Cells} {Q : D → Cells → Prop} {E : Exn → Cells → Prop} : wp (xTm g fa fb l) cs Q E ↔ wp (fa l) cs (fun d cs1 => ∃ a, d = .str a ∧ wp (fb l) cs1 (fun y cs2 => ∃ r, g a y = some r ∧ Q r cs2) E) E := by
  unfold xTm
  simp only [wp_bd, wp_rd]
  constructor
  · exact fun h => wp_imp h (fun d cs1 w => asS_ok w) fun _ _ h => h
  · exact fun h => wp_imp h (fun d cs1 ⟨k, e, w⟩ => by rw [e]; exact w) fun _ _ h => h
/-- persons and whether worked out, as of a value -/
structure Vk (vs : List Str) (wk : Bool) (n : Nat) : Prop where
  nm : ∀ x ∈ vs, nmS x = true
  asc : Asc vs
  len : vs.length ≤ n
  n64 : n < 64
  two : 1 < vs.length → wk = true
  emp : vs = [] → wk = false
section
variable {vs us : List Str} {wk wl : Bool} {n m : Nat}
theorem Vk.ne (h : Vk vs true n) : vs ≠ [] := fun e => by
  have := h.emp e
  cases this
end
end F

namespace F
open PySem L2
local macro_rules | `(tactic| walk_at "w") => `(tactic| simp only [w_run, w_var, w_c, w_1, w_2, w_N, w_bV, w_bNot, w_bOr, w_bAnd, w_xOr, w_xAnd, w_xNot, w_xIf, w_aNil, w_aCons, w_aStar, w_tup, w_lst, w_tupS, w_lstS, w_lstC, w_listC, w_oNone, w_oSome, w_sl, w_join, w_call, w_callS, w_chk, w_at, w_lenO, w_chain, w_tru, w_inO, w_xf, w_isX, w_eq, w_lc, w_iSeq, w_iEnu, w_iStr, w_iRng, w_yes, w_notT, w_binI, w_lenI, w_iEnuT,
  s_seq, s_nx, s_set, s_drop, s_ret, s_retN, s_if, s_asg, s_par2, s_par3, s_raise, s_ownC, s_ownL, s_mutO, s_own, s_addO, s_fldO, s_for, s_setI, s_turn,
  ex_some, ex_if, ex_none, ex_bl, ex_int, ex_str, x_addI, x_addS, x_addT, x_addL, x_sub, x_mul, x_mod, x_div, x_pow, x_lt, x_le, x_gt, x_ge, x_neg, x_int, x_abs, x_min, x_max, x_lenS, x_lenL, x_lenW, x_lenT, x_eqS, x_neS, x_eqI, x_neI, x_isN, x_notN, x_ixL, x_ixW, x_ixT, x_ixS, x_tupL, x_tupT, x_frzL, x_frzT, x_frzW, x_enuL, x_enuT, x_seqL, x_seqT, x_gN, x_g2, x_listT, x_truL, x_slT, x_lenT,
  List.getElem?_cons_zero, List.getElem?_cons_succ, List.set_cons_zero, List.set_cons_succ, List.length_nil, wipeL, decide_eq_true_eq, Bool.not_eq_true', decide_eq_false_iff_not, true_and, and_true])
/-! what Value.read takes -/
/-- the names within a text in parentheses -/
def inner (a : List Nat) : List Str := Txt.split (tx a) " "
end F

namespace F
open PySem L2
/-! words of F38 .. F41 -/
section
variable {cs : Cells} {l : Loc} {Q : D → Cells → Prop} {R : DO → Cells → Prop} {U : Bool → Cells → Prop} {E : Exn → Cells → Prop} {P : Fl → Cells → Prop} {fa fb fk fv fx fo : XE} {f : XA} {fd : XD} {t : EqT} {m : Str} {i j : Nat}
theorem w_dOwn : wp (dOwn i l) cs R E ↔ (match l[i]? with
    | some (.own (.dct _)) => R (.own i) cs
    | some (.val d) => R (.val d) cs
    | _ => False) := by
  unfold dOwn
  generalize l[i]? = o
  rcases o with _ | s
  · exact Iff.rfl
  · cases s with
    | own c => cases c <;> exact Iff.rfl
    | _ => exact Iff.rfl
theorem w_dVal : wp (dVal fa l) cs R E ↔ wp (fa l) cs (fun d cs' => R (.val d) cs') E := by unfold dVal; simp only [wp_bd, wp_rt]
theorem w_dg : wp (xDg fd fk l) cs Q E ↔ wp (fd l) cs (fun o cs1 => wp (fk l) cs1 (fun k cs2 => ∃ r, gDg l o k cs2 = some r ∧ Q r cs2) E) E := by unfold xDg; simp only [wp_bd, wp_rd]
theorem w_din {neg : Bool} : wp (xDin neg fk fd l) cs Q E ↔ wp (fk l) cs (fun k cs1 => wp (fd l) cs1 (fun o cs2 => ∃ r, gDin neg l o k cs2 = some r ∧ Q r cs2) E) E := by unfold xDin; simp only [wp_bd, wp_rd]
theorem w_dget : wp (xDget fd fk fx l) cs Q E ↔ wp (fd l) cs (fun o cs1 => ∃ r, o.kvs l cs1 = some r ∧ wp (fk l) cs1 (fun k cs2 => wp (fx l) cs2 (fun x cs3 => ∃ r, gDget l o k x cs3 = some r ∧ Q r cs3) E) E) E := by unfold xDget; simp only [wp_bd, wp_rd]
theorem w_dvals : wp (xDvals fd l) cs Q E ↔ wp (fd l) cs (fun o cs1 => ∃ r, (o.kvs l cs1).map (fun kvs => D.lst (kvs.map (·.2))) = some r ∧ Q r cs1) E := by unfold xDvals; simp only [wp_bd, wp_rd]
def putS (l : Loc) (o : DO) (k v : D) (cs : Cells) : SO := match keyOf k, o.kvs l cs with
  | some k, some kvs => if kvs.length < 1000000 then chgD l o cs (dpK kvs k v) else .no
  | _, _ => .no
theorem s_dput : wpS (sDput fd fk fv l cs) P ↔ wp (fv l) cs (fun v cs1 => wp (fd l) cs1 (fun o cs2 => wp (fk l) cs2 (fun k cs3 => wpS (putS l o k v cs3) P) (fun x cs' => P (.ex x l) cs')) (fun x cs' => P (.ex x l) cs')) (fun x cs' => P (.ex x l) cs') := by
  unfold sDput
  simp only [wpS_onE]
  exact Iff.rfl
theorem w_ixI : wp (xIxI t fa fb l) cs Q E ↔ wp (fa l) cs (fun x cs1 => wp (fb l) cs1 (fun y cs2 => wp (ixDyn t x y) cs2 Q E) E) E := by unfold xIxI; simp only [wp_bd]
theorem w_meth : wp (xMeth t m fo f l) cs Q E ↔ wp (fo l) cs (fun o cs1 => ∃ Fe, mGet t m o cs1 = some Fe ∧ wp (f l) cs1 (fun ds cs2 => wp (Fe (o :: ds) []) cs2 Q E) E) E := by unfold xMeth; simp only [wp_bd, wp_rd]
def ixO (xs : List D) (y : D) : Option D := match y with
  | .int k => atI xs k
  | _ => none
theorem w_ixO : wp (xIxO i fa l) cs Q E ↔ (match l[i]? with
    | some (.own (.lst xs)) => wp (fa l) cs (fun y cs1 => ∃ r, ixO xs y = some r ∧ Q r cs1) E
    | some (.val d) => wp (fa l) cs (fun y cs1 => ∃ r, dIx cs1 d y = some r ∧ Q r cs1) E
    | _ => False) := by
  unfold xIxO
  generalize l[i]? = o
  rcases o with _ | s
  · exact Iff.rfl
  · cases s with
    | own c =>
      cases c with
      | lst xs => simp only [wp_bd, wp_rd]; exact Iff.rfl
      | _ => exact Iff.rfl
    | val d => simp only [wp_bd, wp_rd]
    | _ => exact Iff.rfl
theorem x_ixO {xs : List D} {k : Int} {Z : D → Prop} : (∃ r, ixO xs (.int k) = some r ∧ Z r) ↔ ∃ r, atI xs k = some r ∧ Z r := Iff.rfl
theorem s_par2O {c c' : C} : wpS (sPar2O i j c c' l cs) P ↔ P (.nx ((l.set i (.own c)).set j (.own c'))) cs := Iff.rfl
end
end F

namespace F
open PySem L2
local macro_rules | `(tactic| walk_at "w") => `(tactic| simp only [w_run, w_var, w_c, w_1, w_2, w_N, w_bV, w_bNot, w_bOr, w_bAnd, w_xOr, w_xAnd, w_xNot, w_xIf, w_aNil, w_aCons, w_aStar, w_tup, w_lst, w_tupS, w_lstS, w_lstC, w_listC, w_oNone, w_oSome, w_sl, w_join, w_call, w_callS, w_chk, w_at, w_lenO, w_chain, w_tru, w_inO, w_xf, w_isX, w_eq, w_lc, w_iSeq, w_iEnu, w_iStr, w_iRng, w_yes, w_notT, w_binI, w_lenI, w_iEnuT, w_inI, w_prop, w_strI, w_boolI, w_js0, w_js, w_tm, w_addC, w_dOwn, w_dVal, w_dg, w_din, w_dget, w_dvals, w_ixI, w_meth, w_ixO, x_ixO,
  s_seq, s_nx, s_set, s_drop, s_ret, s_retN, s_if, s_asg, s_par2, s_par3, s_raise, s_ownC, s_ownL, s_mutO, s_own, s_addO, s_fldO, s_for, s_setI, s_turn, s_dput, s_par2O,
  ex_some, ex_if, ex_none, ex_bl, ex_int, ex_str, x_addI, x_addS, x_addT, x_addL, x_sub, x_mul, x_mod, x_div, x_pow, x_lt, x_le, x_gt, x_ge, x_neg, x_int, x_abs, x_min, x_max, x_lenS, x_lenL, x_lenW, x_lenT, x_eqS, x_neS, x_eqI, x_neI, x_isN, x_notN, x_ixL, x_ixW, x_ixT, x_ixS, x_tupL, x_tupT, x_frzL, x_frzT, x_frzW, x_enuL, x_enuT, x_seqL, x_seqT, x_gN, x_g2, x_listT, x_truL, x_slT, x_lenT, x_slL, x_fmt, x_boolT, x_eqBl, x_neBl, isi_bB, isi_t, x_inL, x_inT,
  List.getElem?_cons_zero, List.getElem?_cons_succ, List.set_cons_zero, List.set_cons_succ, List.length_nil, wipeL, decide_eq_true_eq, Bool.not_eq_true', decide_eq_false_iff_not, true_and, and_true])
/-! stores, holds and schemas as typed data -/
inductive Kd where
  | store | table | log | queue | answers | archive | rolling
def Kd.c : Kd → Str
  | .store => "Store" | .table => "Table" | .log => "Log" | .queue => "Queue" | .answers => "Answers" | .archive => "Archive" | .rolling => "Rolling"
def Kd.w : Kd → Str
  | .store => "store" | .table => "table" | .log => "log" | .queue => "queue" | .answers => "answers" | .archive => "archive" | .rolling => "rolling"
structure St where
  kd : Kd
  name : Str
  under : Option Str
  refs : List Str
  fields : List Str
structure Hd where
  store : Str
  fields : List Str
  by_ : Option Str
structure Sch where
  stores : List St
  holds : List Hd
section
variable {n b r f : D}
theorem hd3 : putD "fields" f ([("store", n), ("by", b)] : List (Str × D)) = ([("store", n), ("by", b), ("fields", f)] : List (Str × D)) := by
  simp only [putD, show (("store" : Str) = "fields") = False from eq_false (by decide +kernel), show (("by" : Str) = "fields") = False from eq_false (by decide +kernel), if_false]
end
section
variable {tb : Tb} {cs : Cells} {Z : D → Prop} {s : St} {h : Hd} {c : Sch}
end
abbrev ptS (x : Str) : Prop := isPt (.str x) = true
theorem pt_nm {x : Str} (h : ptS x) : nmS x = true := (Bool.and_eq_true_iff.mp h).1
structure StOk (s : St) : Prop where
  nm : nmS s.name = true
  un : ∀ u, s.under = some u → nmS u = true
  pr : ∀ x ∈ s.refs, ptS x
  pf : ∀ x ∈ s.fields, ptS x
  nd : (s.refs ++ s.fields).Nodup
  lr : s.refs.length ≤ 3
  lf : s.fields.length ≤ 3
structure HdOk (h : Hd) : Prop where
  nm : nmS h.store = true
  by_ : ∀ u, h.by_ = some u → nmS u = true
  pf : ∀ x ∈ h.fields, ptS x
  nd : h.fields.Nodup
  lf : h.fields.length ≤ 3
section
variable {tb : Tb} {cs : Cells} {Q : D → Cells → Prop} {E : Exn → Cells → Prop}
end
/-! ### a store by its name -/
def findS (ss : List St) (x : Str) : Option St := ss.find? fun s => decide (s.name = x)
section
variable {tb : Tb} {cs : Cells} {Q : D → Cells → Prop} {E : Exn → Cells → Prop}
end
end F

namespace F
open PySem L2
local macro_rules | `(tactic| walk_at "w") => `(tactic| simp only [w_run, w_var, w_c, w_1, w_2, w_N, w_bV, w_bNot, w_bOr, w_bAnd, w_xOr, w_xAnd, w_xNot, w_xIf, w_aNil, w_aCons, w_aStar, w_tup, w_lst, w_tupS, w_lstS, w_lstC, w_listC, w_oNone, w_oSome, w_sl, w_join, w_call, w_callS, w_chk, w_at, w_lenO, w_chain, w_tru, w_inO, w_xf, w_isX, w_eq, w_lc, w_iSeq, w_iEnu, w_iStr, w_iRng, w_yes, w_notT, w_binI, w_lenI, w_iEnuT, w_inI, w_prop, w_strI, w_boolI, w_js0, w_js, w_tm, w_addC, w_dOwn, w_dVal, w_dg, w_din, w_dget, w_dvals, w_ixI, w_meth, w_ixO, x_ixO,
  s_seq, s_nx, s_set, s_drop, s_ret, s_retN, s_if, s_asg, s_par2, s_par3, s_raise, s_ownC, s_ownL, s_mutO, s_own, s_addO, s_fldO, s_for, s_setI, s_turn, s_dput, s_par2O,
  ex_some, ex_if, ex_none, ex_bl, ex_int, ex_str, x_addI, x_addS, x_addT, x_addL, x_sub, x_mul, x_mod, x_div, x_pow, x_lt, x_le, x_gt, x_ge, x_neg, x_int, x_abs, x_min, x_max, x_lenS, x_lenL, x_lenW, x_lenT, x_eqS, x_neS, x_eqI, x_neI, x_isN, x_notN, x_ixL, x_ixW, x_ixT, x_ixS, x_tupL, x_tupT, x_frzL, x_frzT, x_frzW, x_enuL, x_enuT, x_seqL, x_seqT, x_gN, x_g2, x_listT, x_truL, x_slT, x_lenT, x_slL, x_fmt, x_boolT, x_eqBl, x_neBl, isi_bB, isi_t, x_inL, x_inT,
  List.getElem?_cons_zero, List.getElem?_cons_succ, List.set_cons_zero, List.set_cons_succ, List.length_nil, wipeL, decide_eq_true_eq, Bool.not_eq_true', decide_eq_false_iff_not, true_and, and_true])
/-! schemas: made, or the first error -/
section
variable {tb : Tb} {cs : Cells} {Q : D → Cells → Prop} {E : Exn → Cells → Prop} {l : Loc} {fe : XE}
end
/-! dicts of names and numbers -/
/-- one entry after another -/
def accF (f : List (Str × Int) → St → Int) (acc : List (Str × Int)) : List St → List (Str × Int)
  | [] => acc
  | s :: r => accF f (acc ++ [(s.name, f acc s)]) r
/-! look_under -/
def fDep (acc : List (Str × Int)) (s : St) : Int := match s.under with
  | none => 0
  | some u => (acc.lookup u).getD 0 + 1
def badU (ahead : List Str) : List St → Option Str
  | [] => none
  | s :: r => match s.under with
    | some u => if u ∈ ahead then badU (ahead ++ [s.name]) r else some u
    | none => badU (ahead ++ [s.name]) r
section
variable {tb : Tb} {cs : Cells} {Q : D → Cells → Prop} {E : Exn → Cells → Prop}
end
end F

namespace F
open PySem L2
local macro_rules | `(tactic| walk_at "w") => `(tactic| simp only [w_run, w_var, w_c, w_1, w_2, w_N, w_bV, w_bNot, w_bOr, w_bAnd, w_xOr, w_xAnd, w_xNot, w_xIf, w_aNil, w_aCons, w_aStar, w_tup, w_lst, w_tupS, w_lstS, w_lstC, w_listC, w_oNone, w_oSome, w_sl, w_join, w_call, w_callS, w_chk, w_at, w_lenO, w_chain, w_tru, w_inO, w_xf, w_isX, w_eq, w_lc, w_iSeq, w_iEnu, w_iStr, w_iRng, w_yes, w_notT, w_binI, w_lenI, w_iEnuT, w_inI, w_prop, w_strI, w_boolI, w_js0, w_js, w_tm, w_addC, w_dOwn, w_dVal, w_dg, w_din, w_dget, w_dvals, w_ixI, w_meth, w_ixO, x_ixO,
  s_seq, s_nx, s_set, s_drop, s_ret, s_retN, s_if, s_asg, s_par2, s_par3, s_raise, s_ownC, s_ownL, s_mutO, s_own, s_addO, s_fldO, s_for, s_setI, s_turn, s_dput, s_par2O,
  ex_some, ex_if, ex_none, ex_bl, ex_int, ex_str, x_addI, x_addS, x_addT, x_addL, x_sub, x_mul, x_mod, x_div, x_pow, x_lt, x_le, x_gt, x_ge, x_neg, x_int, x_abs, x_min, x_max, x_lenS, x_lenL, x_lenW, x_lenT, x_eqS, x_neS, x_eqI, x_neI, x_isN, x_notN, x_ixL, x_ixW, x_ixT, x_ixS, x_tupL, x_tupT, x_frzL, x_frzT, x_frzW, x_enuL, x_enuT, x_seqL, x_seqT, x_gN, x_g2, x_listT, x_truL, x_slT, x_lenT, x_slL, x_fmt, x_boolT, x_eqBl, x_neBl, isi_bB, isi_t, x_inL, x_inT,
  List.getElem?_cons_zero, List.getElem?_cons_succ, List.set_cons_zero, List.set_cons_succ, List.length_nil, wipeL, decide_eq_true_eq, Bool.not_eq_true', decide_eq_false_iff_not, true_and, and_true])
/-! schema.above, schema.room -/
def chainUp (ss : List St) : Nat → St → Option St
  | 0, s => some s
  | n + 1, s => match s.under with
    | none => none
    | some u => match findS ss u with
      | some t => chainUp ss n t
      | none => none
def SchW (ss : List St) : Prop := ∀ s ∈ ss, ∀ u, s.under = some u → ∃ t, findS ss u = some t
section
variable {tb : Tb} {cs : Cells} {Q : D → Cells → Prop} {E : Exn → Cells → Prop}
/-! rooms -/
def ownR (L X : Int) (s : St) : Int := L ^ s.refs.length * X ^ s.fields.length
def fRoom (L X : Int) (acc : List (Str × Int)) (s : St) : Int := ownR L X s * ((s.under.bind fun u => acc.lookup u).getD 0 + 1)
end
end F

namespace F
open PySem L2
local macro_rules | `(tactic| walk_at "w") => `(tactic| simp only [w_run, w_var, w_c, w_1, w_2, w_N, w_bV, w_bNot, w_bOr, w_bAnd, w_xOr, w_xAnd, w_xNot, w_xIf, w_aNil, w_aCons, w_aStar, w_tup, w_lst, w_tupS, w_lstS, w_lstC, w_listC, w_oNone, w_oSome, w_sl, w_join, w_call, w_callS, w_chk, w_at, w_lenO, w_chain, w_tru, w_inO, w_xf, w_isX, w_eq, w_lc, w_iSeq, w_iEnu, w_iStr, w_iRng, w_yes, w_notT, w_binI, w_lenI, w_iEnuT, w_inI, w_prop, w_strI, w_boolI, w_js0, w_js, w_tm, w_addC, w_dOwn, w_dVal, w_dg, w_din, w_dget, w_dvals, w_ixI, w_meth, w_ixO, x_ixO,
  s_seq, s_nx, s_set, s_drop, s_ret, s_retN, s_if, s_asg, s_par2, s_par3, s_raise, s_ownC, s_ownL, s_mutO, s_own, s_addO, s_fldO, s_for, s_setI, s_turn, s_dput, s_par2O,
  ex_some, ex_if, ex_none, ex_bl, ex_int, ex_str, x_addI, x_addS, x_addT, x_addL, x_sub, x_mul, x_mod, x_div, x_pow, x_lt, x_le, x_gt, x_ge, x_neg, x_int, x_abs, x_min, x_max, x_lenS, x_lenL, x_lenW, x_lenT, x_eqS, x_neS, x_eqI, x_neI, x_isN, x_notN, x_ixL, x_ixW, x_ixT, x_ixS, x_tupL, x_tupT, x_frzL, x_frzT, x_frzW, x_enuL, x_enuT, x_seqL, x_seqT, x_gN, x_g2, x_listT, x_truL, x_slT, x_lenT, x_slL, x_fmt, x_boolT, x_eqBl, x_neBl, isi_bB, isi_t, x_inL, x_inT,
  List.getElem?_cons_zero, List.getElem?_cons_succ, List.set_cons_zero, List.set_cons_succ, List.length_nil, wipeL, decide_eq_true_eq, Bool.not_eq_true', decide_eq_false_iff_not, true_and, and_true])
/-! the law's own stores and holds (first family) -/
section
variable {cs : Cells} {Z : D → Prop}
end
section
variable {tb : Tb} {cs : Cells} {Q : D → Cells → Prop} {E : Exn → Cells → Prop}
end
/-! ### the stores that are drawn -/
/-- stores that stand under earlier ones, at most two above -/
structure SixOk (ws : List Str) (ss : List St) (ds : List Int) : Prop where
  nm : ss.map (·.name) = ws.take ss.length
  ok : ∀ s ∈ ss, StOk s
  ac : accF fDep [] ss = (ss.map (·.name)).zip ds
  ld : ds.length = ss.length
  d2 : ∀ d ∈ ds, 0 ≤ d ∧ d ≤ 2
  bu : badU [] ss = none
  pt : ∀ s ∈ ss, (∀ x ∈ s.refs, x ∈ ws) ∧ ∀ x ∈ s.fields, x ∈ ws
  ch : ∀ (t : Nat) (s : St) (d : Int), ss[t]? = some s → ds[t]? = some d → (s.under = none ∧ d = 0) ∨ ∃ (t' : Nat) (s' : St) (e : Int), t' < t ∧ ss[t']? = some s' ∧ ds[t']? = some e ∧ s.under = some s'.name ∧ d = e + 1
theorem SixOk.nil {ws : List Str} : SixOk ws [] [] := ⟨rfl, by simp, rfl, rfl, by simp, rfl, by simp, by simp⟩
theorem SixOk.nd {ws : List Str} {ss : List St} {ds : List Int} (h : SixOk ws ss ds) (nd : ws.Nodup) : (ss.map (·.name)).Nodup := by
  rw [h.nm]
  exact List.Nodup.sublist (List.take_sublist _ _) nd
end F

namespace F
open PySem L2
local macro_rules | `(tactic| walk_at "w") => `(tactic| simp only [w_run, w_var, w_c, w_1, w_2, w_N, w_bV, w_bNot, w_bOr, w_bAnd, w_xOr, w_xAnd, w_xNot, w_xIf, w_aNil, w_aCons, w_aStar, w_tup, w_lst, w_tupS, w_lstS, w_lstC, w_listC, w_oNone, w_oSome, w_sl, w_join, w_call, w_callS, w_chk, w_at, w_lenO, w_chain, w_tru, w_inO, w_xf, w_isX, w_eq, w_lc, w_iSeq, w_iEnu, w_iStr, w_iRng, w_yes, w_notT, w_binI, w_lenI, w_iEnuT, w_inI, w_prop, w_strI, w_boolI, w_js0, w_js, w_tm, w_addC, w_dOwn, w_dVal, w_dg, w_din, w_dget, w_dvals, w_ixI, w_meth, w_ixO, x_ixO,
  s_seq, s_nx, s_set, s_drop, s_ret, s_retN, s_if, s_asg, s_par2, s_par3, s_raise, s_ownC, s_ownL, s_mutO, s_own, s_addO, s_fldO, s_for, s_setI, s_turn, s_dput, s_par2O,
  ex_some, ex_if, ex_none, ex_bl, ex_int, ex_str, x_addI, x_addS, x_addT, x_addL, x_sub, x_mul, x_mod, x_div, x_pow, x_lt, x_le, x_gt, x_ge, x_neg, x_int, x_abs, x_min, x_max, x_lenS, x_lenL, x_lenW, x_lenT, x_eqS, x_neS, x_eqI, x_neI, x_isN, x_notN, x_ixL, x_ixW, x_ixT, x_ixS, x_tupL, x_tupT, x_frzL, x_frzT, x_frzW, x_enuL, x_enuT, x_seqL, x_seqT, x_gN, x_g2, x_listT, x_truL, x_slT, x_lenT, x_slL, x_fmt, x_boolT, x_eqBl, x_neBl, isi_bB, isi_t, x_inL, x_inT,
  List.getElem?_cons_zero, List.getElem?_cons_succ, List.set_cons_zero, List.set_cons_succ, List.length_nil, wipeL, decide_eq_true_eq, Bool.not_eq_true', decide_eq_false_iff_not, true_and, and_true])
/-! holds as they are drawn; the schema of both; the stores above -/
/-- a hold that fits a store -/
structure HFit (s : St) (h : Hd) : Prop where
  st : h.store = s.name
  fd : ∀ x ∈ h.fields, x ∈ s.fields
  nd : h.fields.Nodup
  lf : h.fields.length ≤ 3
  by_ : h.by_ = none ∨ (h.by_ = some ("up" : Str) ∧ s.under ≠ none) ∨ ∃ r ∈ s.refs, h.by_ = some r
theorem HFit.ok {s : St} {h : Hd} (f : HFit s h) (ok : StOk s) : HdOk h := by
  refine ⟨by rw [f.st]; exact ok.nm, ?_, fun x hx => ok.pf x (f.fd x hx), f.nd, f.lf⟩
  · intro u hu
    rcases f.by_ with h1 | ⟨h1, _⟩ | ⟨r, hr, h1⟩
    · rw [h1] at hu; cases hu
    · rw [h1] at hu
      have e := Option.some.inj hu
      rw [← e]
      decide +kernel
    · rw [h1] at hu
      have e := Option.some.inj hu
      rw [← e]
      exact pt_nm (ok.pr _ hr)
section
variable {tb : Tb} {cs : Cells} {b n : Nat} {Q : D → Cells → Prop} {E : Exn → Cells → Prop}
end
section
variable {tb : Tb} {cs : Cells} {b n : Nat} {Q : D → Cells → Prop} {E : Exn → Cells → Prop}
/-- each store stands under one that is found -/
theorem badU_w : ∀ {l : List St} {ah : List Str}, badU ah l = none → ∀ s ∈ l, ∀ u, s.under = some u → u ∈ ah ++ l.map (·.name)
  | [], ah, _, s, hs, _, _ => by simp at hs
  | t :: l, ah, hb, s, hs, u, hu => by
    rw [badU] at hb
    have key : badU (ah ++ [t.name]) l = none ∧ (∀ v, t.under = some v → v ∈ ah) := by
      cases ht : t.under with
      | none =>
        rw [ht] at hb
        exact ⟨hb, fun v hv => by cases hv⟩
      | some v =>
        rw [ht] at hb
        dsimp only at hb
        by_cases hm : v ∈ ah
        · rw [if_pos hm] at hb
          exact ⟨hb, fun w hw => by cases hw; exact hm⟩
        · rw [if_neg hm] at hb
          cases hb
    rcases List.mem_cons.mp hs with rfl | hs
    · exact List.mem_append_left _ (key.2 u hu)
    · have := badU_w key.1 s hs u hu
      simpa using this
theorem find_of_mem {ss : List St} {x : Str} (h : x ∈ ss.map (·.name)) : ∃ t, findS ss x = some t := by
  obtain ⟨s, hs, rfl⟩ := List.mem_map.mp h
  cases hf : findS ss s.name with
  | some t => exact ⟨t, rfl⟩
  | none =>
    have := List.find?_eq_none.mp hf s hs
    simp at this
theorem SixOk.w {ws : List Str} {ss : List St} {ds : List Int} (six : SixOk ws ss ds) : SchW ss := fun s hs u hu => find_of_mem (by simpa using badU_w six.bu s hs u hu)
end
end F

namespace F
open PySem L2
local macro_rules | `(tactic| walk_at "w") => `(tactic| simp only [w_run, w_var, w_c, w_1, w_2, w_N, w_bV, w_bNot, w_bOr, w_bAnd, w_xOr, w_xAnd, w_xNot, w_xIf, w_aNil, w_aCons, w_aStar, w_tup, w_lst, w_tupS, w_lstS, w_lstC, w_listC, w_oNone, w_oSome, w_sl, w_join, w_call, w_callS, w_chk, w_at, w_lenO, w_chain, w_tru, w_inO, w_xf, w_isX, w_eq, w_lc, w_iSeq, w_iEnu, w_iStr, w_iRng, w_yes, w_notT, w_binI, w_lenI, w_iEnuT, w_inI, w_prop, w_strI, w_boolI, w_js0, w_js, w_tm, w_addC, w_dOwn, w_dVal, w_dg, w_din, w_dget, w_dvals, w_ixI, w_meth, w_ixO, x_ixO, w_sumO,
  s_seq, s_nx, s_set, s_drop, s_ret, s_retN, s_if, s_asg, s_par2, s_par3, s_raise, s_ownC, s_ownL, s_mutO, s_own, s_addO, s_fldO, s_for, s_setI, s_turn, s_dput, s_par2O, s_par3O,
  ex_some, ex_if, ex_none, ex_bl, ex_int, ex_str, x_addI, x_addS, x_addT, x_addL, x_sub, x_mul, x_mod, x_div, x_pow, x_lt, x_le, x_gt, x_ge, x_neg, x_int, x_abs, x_min, x_max, x_lenS, x_lenL, x_lenW, x_lenT, x_eqS, x_neS, x_eqI, x_neI, x_isN, x_notN, x_ixL, x_ixW, x_ixT, x_ixS, x_tupL, x_tupT, x_frzL, x_frzT, x_frzW, x_enuL, x_enuT, x_seqL, x_seqT, x_gN, x_g2, x_listT, x_truL, x_slT, x_lenT, x_slL, x_fmt, x_boolT, x_eqBl, x_neBl, isi_bB, isi_t, x_inL, x_inT,
  List.getElem?_cons_zero, List.getElem?_cons_succ, List.set_cons_zero, List.set_cons_succ, List.length_nil, wipeL, decide_eq_true_eq, Bool.not_eq_true', decide_eq_false_iff_not, true_and, and_true])
/-! names and stores as the third family draws them -/
/-- stores as they are drawn: the rooms, too -/
structure StoC (ws : List Str) (lim : Int) (ss : List St) (ds rs : List Int) : Prop where
  six : SixOk ws ss ds
  rm : accF (fRoom 3 6) [] ss = (ss.map (·.name)).zip rs
  lr : rs.length = ss.length
  rp : ∀ r ∈ rs, 1 ≤ r
  sm : rs.sum ≤ max 18 lim
  f0 : ∀ s, ss[0]? = some s → s.fields ≠ [] ∧ s.refs ≠ []
  l2 : ∀ s ∈ ss, s.refs.length ≤ 2 ∧ s.fields.length ≤ 2
theorem StoC.nil {ws : List Str} {lim : Int} : StoC ws lim [] [] [] := ⟨SixOk.nil, rfl, rfl, by simp, by simp; omega, by simp, by simp⟩
section
variable {tb : Tb} {cs : Cells} {b n : Nat} {Q : D → Cells → Prop} {E : Exn → Cells → Prop}
end
end F

namespace F
open PySem L2
local macro_rules | `(tactic| walk_at "w") => `(tactic| simp only [w_run, w_var, w_c, w_1, w_2, w_N, w_bV, w_bNot, w_bOr, w_bAnd, w_xOr, w_xAnd, w_xNot, w_xIf, w_aNil, w_aCons, w_aStar, w_tup, w_lst, w_tupS, w_lstS, w_lstC, w_listC, w_oNone, w_oSome, w_sl, w_join, w_call, w_callS, w_chk, w_at, w_lenO, w_chain, w_tru, w_inO, w_xf, w_isX, w_eq, w_lc, w_iSeq, w_iEnu, w_iStr, w_iRng, w_yes, w_notT, w_binI, w_lenI, w_iEnuT, w_inI, w_prop, w_strI, w_boolI, w_js0, w_js, w_tm, w_addC, w_dOwn, w_dVal, w_dg, w_din, w_dget, w_dvals, w_ixI, w_meth, w_ixO, x_ixO, w_sumO,
  s_seq, s_nx, s_set, s_drop, s_ret, s_retN, s_if, s_asg, s_par2, s_par3, s_raise, s_ownC, s_ownL, s_mutO, s_own, s_addO, s_fldO, s_for, s_setI, s_turn, s_dput, s_par2O, s_par3O,
  ex_some, ex_if, ex_none, ex_bl, ex_int, ex_str, x_addI, x_addS, x_addT, x_addL, x_sub, x_mul, x_mod, x_div, x_pow, x_lt, x_le, x_gt, x_ge, x_neg, x_int, x_abs, x_min, x_max, x_lenS, x_lenL, x_lenW, x_lenT, x_eqS, x_neS, x_eqI, x_neI, x_isN, x_notN, x_ixL, x_ixW, x_ixT, x_ixS, x_tupL, x_tupT, x_frzL, x_frzT, x_frzW, x_enuL, x_enuT, x_seqL, x_seqT, x_gN, x_g2, x_listT, x_truL, x_slT, x_lenT, x_slL, x_fmt, x_boolT, x_eqBl, x_neBl, isi_bB, isi_t, x_inL, x_inT,
  List.getElem?_cons_zero, List.getElem?_cons_succ, List.set_cons_zero, List.set_cons_succ, List.length_nil, wipeL, decide_eq_true_eq, Bool.not_eq_true', decide_eq_false_iff_not, true_and, and_true])
/-! names, chains, places, lines and schemas as the third family draws them -/
section
variable {tb : Tb} {cs : Cells} {b n : Nat} {Q : D → Cells → Prop} {E : Exn → Cells → Prop}
end
/-! places -/
section
variable {tb : Tb} {cs : Cells} {b n : Nat} {Q : D → Cells → Prop} {E : Exn → Cells → Prop}
/-! whether a line of an export fits -/
def refF (ss : List St) (s : St) (i : Nat) (y : Str) : Bool := match chainUp ss i s with
  | some t => decide (y ∈ t.refs)
  | none => false
end
end F

namespace F
open PySem L2
local macro_rules | `(tactic| walk_at "w") => `(tactic| simp only [w_run, w_var, w_c, w_1, w_2, w_N, w_bV, w_bNot, w_bOr, w_bAnd, w_xOr, w_xAnd, w_xNot, w_xIf, w_aNil, w_aCons, w_aStar, w_tup, w_lst, w_tupS, w_lstS, w_lstC, w_listC, w_oNone, w_oSome, w_sl, w_join, w_call, w_callS, w_chk, w_at, w_lenO, w_chain, w_tru, w_inO, w_xf, w_isX, w_eq, w_lc, w_iSeq, w_iEnu, w_iStr, w_iRng, w_yes, w_notT, w_binI, w_lenI, w_iEnuT, w_inI, w_prop, w_strI, w_boolI, w_js0, w_js, w_tm, w_addC, w_dOwn, w_dVal, w_dg, w_din, w_dget, w_dvals, w_ixI, w_meth, w_ixO, x_ixO, w_sumO,
  s_seq, s_nx, s_set, s_drop, s_ret, s_retN, s_if, s_asg, s_par2, s_par3, s_raise, s_ownC, s_ownL, s_mutO, s_own, s_addO, s_fldO, s_for, s_setI, s_turn, s_dput, s_par2O, s_par3O,
  ex_some, ex_if, ex_none, ex_bl, ex_int, ex_str, x_addI, x_addS, x_addT, x_addL, x_sub, x_mul, x_mod, x_div, x_pow, x_lt, x_le, x_gt, x_ge, x_neg, x_int, x_abs, x_min, x_max, x_lenS, x_lenL, x_lenW, x_lenT, x_eqS, x_neS, x_eqI, x_neI, x_isN, x_notN, x_ixL, x_ixW, x_ixT, x_ixS, x_tupL, x_tupT, x_frzL, x_frzT, x_frzW, x_enuL, x_enuT, x_seqL, x_seqT, x_gN, x_g2, x_listT, x_truL, x_slT, x_lenT, x_slL, x_fmt, x_boolT, x_eqBl, x_neBl, isi_bB, isi_t, x_inL, x_inT,
  List.getElem?_cons_zero, List.getElem?_cons_succ, List.set_cons_zero, List.set_cons_succ, List.length_nil, wipeL, decide_eq_true_eq, Bool.not_eq_true', decide_eq_false_iff_not, true_and, and_true])
/-! handlers as typed data; what fits a schema -/
/-- ends that fit: a person of the handler, or a reference seen from its row -/
def endF (ss : List St) (r : Option St) (ppl : List Str) : D → Bool
  | .str x => decide (x ∈ ppl)
  | .tup [.int i, .str y] => match r with
    | some s => refF ss s i.toNat y
    | none => false
  | _ => false
def toF (ss : List St) (r : Option St) (ppl : List Str) (d : D) : Bool := isNon d || endF ss r ppl d
section
variable {tb : Tb} {cs : Cells} {Q : D → Cells → Prop} {E : Exn → Cells → Prop} {nm : Str} {rw' : Option Str} {ppl : List Str} {st : List D} {Z : D → Prop}
variable {c : Sch} {r : Option St} {d : D}
end
end F

namespace F
open PySem L2
local macro_rules | `(tactic| walk_at "w") => `(tactic| simp only [w_run, w_var, w_c, w_1, w_2, w_N, w_bV, w_bNot, w_bOr, w_bAnd, w_xOr, w_xAnd, w_xNot, w_xIf, w_aNil, w_aCons, w_aStar, w_tup, w_lst, w_tupS, w_lstS, w_lstC, w_listC, w_oNone, w_oSome, w_sl, w_join, w_call, w_callS, w_chk, w_at, w_lenO, w_chain, w_tru, w_inO, w_xf, w_isX, w_eq, w_lc, w_iSeq, w_iEnu, w_iStr, w_iRng, w_yes, w_notT, w_binI, w_lenI, w_iEnuT, w_inI, w_prop, w_strI, w_boolI, w_js0, w_js, w_tm, w_addC, w_dOwn, w_dVal, w_dg, w_din, w_dget, w_dvals, w_ixI, w_meth, w_ixO, x_ixO, w_sumO,
  s_seq, s_nx, s_set, s_drop, s_ret, s_retN, s_if, s_asg, s_par2, s_par3, s_raise, s_ownC, s_ownL, s_mutO, s_own, s_addO, s_fldO, s_for, s_setI, s_turn, s_dput, s_par2O, s_par3O,
  ex_some, ex_if, ex_none, ex_bl, ex_int, ex_str, x_addI, x_addS, x_addT, x_addL, x_sub, x_mul, x_mod, x_div, x_pow, x_lt, x_le, x_gt, x_ge, x_neg, x_int, x_abs, x_min, x_max, x_lenS, x_lenL, x_lenW, x_lenT, x_eqS, x_neS, x_eqI, x_neI, x_isN, x_notN, x_ixL, x_ixW, x_ixT, x_ixS, x_tupL, x_tupT, x_frzL, x_frzT, x_frzW, x_enuL, x_enuT, x_seqL, x_seqT, x_gN, x_g2, x_listT, x_truL, x_slT, x_lenT, x_slL, x_fmt, x_boolT, x_eqBl, x_neBl, isi_bB, isi_t, x_inL, x_inT,
  List.getElem?_cons_zero, List.getElem?_cons_succ, List.set_cons_zero, List.set_cons_succ, List.length_nil, wipeL, decide_eq_true_eq, Bool.not_eq_true', decide_eq_false_iff_not, true_and, and_true])
/-! look_handler -/
abbrev badStX (nm : Str) (k : Nat) : Exn := mkX "BadStep" ["handler", "index"] [.str nm, .int (k : Int)]
section
variable {tb : Tb} {cs : Cells} {nm : Str} {ppl : List Str} {st : List D} {c : Sch} {r : Option St} {d : D} {P : Fl → Cells → Prop}
end
end F

namespace F
open PySem L2
local macro_rules | `(tactic| walk_at "w") => `(tactic| simp only [w_run, w_var, w_c, w_1, w_2, w_N, w_bV, w_bNot, w_bOr, w_bAnd, w_xOr, w_xAnd, w_xNot, w_xIf, w_aNil, w_aCons, w_aStar, w_tup, w_lst, w_tupS, w_lstS, w_lstC, w_listC, w_oNone, w_oSome, w_sl, w_join, w_call, w_callS, w_chk, w_at, w_lenO, w_chain, w_tru, w_inO, w_xf, w_isX, w_eq, w_lc, w_iSeq, w_iEnu, w_iStr, w_iRng, w_yes, w_notT, w_binI, w_lenI, w_iEnuT,
  s_seq, s_nx, s_set, s_drop, s_ret, s_retN, s_if, s_asg, s_par2, s_par3, s_raise, s_ownC, s_ownL, s_mutO, s_own, s_addO, s_fldO, s_for, s_setI, s_turn,
  ex_some, ex_if, ex_none, ex_bl, ex_int, ex_str, x_addI, x_addS, x_addT, x_addL, x_sub, x_mul, x_mod, x_div, x_pow, x_lt, x_le, x_gt, x_ge, x_neg, x_int, x_abs, x_min, x_max, x_lenS, x_lenL, x_lenW, x_lenT, x_eqS, x_neS, x_eqI, x_neI, x_isN, x_notN, x_ixL, x_ixW, x_ixT, x_ixS, x_tupL, x_tupT, x_frzL, x_frzT, x_frzW, x_enuL, x_enuT, x_seqL, x_seqT, x_gN, x_g2, x_listT, x_truL, x_slT, x_lenT,
  List.getElem?_cons_zero, List.getElem?_cons_succ, List.set_cons_zero, List.set_cons_succ, List.length_nil, wipeL, decide_eq_true_eq, Bool.not_eq_true', decide_eq_false_iff_not, true_and, and_true])
/-! steps of handlers as they are drawn -/
section
variable {tb : Tb} {cs : Cells} {b N m : Nat} {ws : List Str} {Q : D → Cells → Prop} {E : Exn → Cells → Prop}
/-- pairs with different names -/
structure KeysOk (f : D → Bool) (zs : List D) : Prop where
  at_ : ∀ z ∈ zs, ∃ k v, z = .tup [.str k, v] ∧ nmS k = true ∧ f v = true
  nd : (zs.map keyS).Nodup
theorem KeysOk.sub {f : D → Bool} {zs ys : List D} (h : KeysOk f zs) (s : ys.Sublist zs) : KeysOk f ys := ⟨fun z hz => h.at_ z (s.subset hz), (s.map keyS).nodup h.nd⟩
end
end F

namespace F
open PySem L2
local macro_rules | `(tactic| walk_at "w") => `(tactic| simp only [w_run, w_var, w_c, w_1, w_2, w_N, w_bV, w_bNot, w_bOr, w_bAnd, w_xOr, w_xAnd, w_xNot, w_xIf, w_aNil, w_aCons, w_aStar, w_tup, w_lst, w_tupS, w_lstS, w_lstC, w_listC, w_oNone, w_oSome, w_sl, w_join, w_call, w_callS, w_chk, w_at, w_lenO, w_chain, w_tru, w_inO, w_xf, w_isX, w_eq, w_lc, w_iSeq, w_iEnu, w_iStr, w_iRng, w_yes, w_notT, w_binI, w_lenI, w_iEnuT,
  s_seq, s_nx, s_set, s_drop, s_ret, s_retN, s_if, s_asg, s_par2, s_par3, s_raise, s_ownC, s_ownL, s_mutO, s_own, s_addO, s_fldO, s_for, s_setI, s_turn,
  ex_some, ex_if, ex_none, ex_bl, ex_int, ex_str, x_addI, x_addS, x_addT, x_addL, x_sub, x_mul, x_mod, x_div, x_pow, x_lt, x_le, x_gt, x_ge, x_neg, x_int, x_abs, x_min, x_max, x_lenS, x_lenL, x_lenW, x_lenT, x_eqS, x_neS, x_eqI, x_neI, x_isN, x_notN, x_ixL, x_ixW, x_ixT, x_ixS, x_tupL, x_tupT, x_frzL, x_frzT, x_frzW, x_enuL, x_enuT, x_seqL, x_seqT, x_gN, x_g2, x_listT, x_truL, x_slT, x_lenT,
  List.getElem?_cons_zero, List.getElem?_cons_succ, List.set_cons_zero, List.set_cons_succ, List.length_nil, wipeL, decide_eq_true_eq, Bool.not_eq_true', decide_eq_false_iff_not, true_and, and_true])
/-! a step of a handler as it is drawn -/
section
variable {tb : Tb} {cs : Cells} {b N m : Nat} {ws : List Str} {Q : D → Cells → Prop} {E : Exn → Cells → Prop}
theorem up4 {x : D} {k : Nat} (hk : k ≤ 4) (h : gwN 5 k x = true) : gwN 5 4 x = true := gwN_mono (Nat.le_refl _) h hk
end
end F

namespace F
open PySem L2
local macro_rules | `(tactic| walk_at "w") => `(tactic| simp only [w_run, w_var, w_c, w_1, w_2, w_N, w_bV, w_bNot, w_bOr, w_bAnd, w_xOr, w_xAnd, w_xNot, w_xIf, w_aNil, w_aCons, w_aStar, w_tup, w_lst, w_tupS, w_lstS, w_lstC, w_listC, w_oNone, w_oSome, w_sl, w_join, w_call, w_callS, w_chk, w_at, w_lenO, w_chain, w_tru, w_inO, w_xf, w_isX, w_eq, w_lc, w_iSeq, w_iEnu, w_iStr, w_iRng, w_yes, w_notT, w_binI, w_lenI, w_iEnuT, w_inI, w_prop, w_strI, w_boolI, w_js0, w_js, w_tm, w_addC, w_dOwn, w_dVal, w_dg, w_din, w_dget, w_dvals, w_ixI, w_meth, w_ixO, x_ixO, w_sumO,
  s_seq, s_nx, s_set, s_drop, s_ret, s_retN, s_if, s_asg, s_par2, s_par3, s_raise, s_ownC, s_ownL, s_mutO, s_own, s_addO, s_fldO, s_for, s_setI, s_turn, s_dput, s_par2O, s_par3O,
  ex_some, ex_if, ex_none, ex_bl, ex_int, ex_str, x_addI, x_addS, x_addT, x_addL, x_sub, x_mul, x_mod, x_div, x_pow, x_lt, x_le, x_gt, x_ge, x_neg, x_int, x_abs, x_min, x_max, x_lenS, x_lenL, x_lenW, x_lenT, x_eqS, x_neS, x_eqI, x_neI, x_isN, x_notN, x_ixL, x_ixW, x_ixT, x_ixS, x_tupL, x_tupT, x_frzL, x_frzT, x_frzW, x_enuL, x_enuT, x_seqL, x_seqT, x_gN, x_g2, x_listT, x_truL, x_slT, x_lenT, x_slL, x_fmt, x_boolT, x_eqBl, x_neBl, isi_bB, isi_t, x_inL, x_inT,
  List.getElem?_cons_zero, List.getElem?_cons_succ, List.set_cons_zero, List.set_cons_succ, List.length_nil, wipeL, decide_eq_true_eq, Bool.not_eq_true', decide_eq_false_iff_not, true_and, and_true])
/-! handlers and setups are made -/
abbrev manyX8 : Exn := mkX "TooMany" ["limit"] [.int 8]
section
variable {tb : Tb} {cs : Cells} {Q : D → Cells → Prop} {E : Exn → Cells → Prop} {Z : D → Prop}
end
end F

namespace F
open PySem L2
local macro_rules | `(tactic| walk_at "w") => `(tactic| simp only [w_run, w_var, w_c, w_1, w_2, w_N, w_bV, w_bNot, w_bOr, w_bAnd, w_xOr, w_xAnd, w_xNot, w_xIf, w_aNil, w_aCons, w_aStar, w_tup, w_lst, w_tupS, w_lstS, w_lstC, w_listC, w_oNone, w_oSome, w_sl, w_join, w_call, w_callS, w_chk, w_at, w_lenO, w_chain, w_tru, w_inO, w_xf, w_isX, w_eq, w_lc, w_iSeq, w_iEnu, w_iStr, w_iRng, w_yes, w_notT, w_binI, w_lenI, w_iEnuT, w_inI, w_prop, w_strI, w_boolI, w_js0, w_js, w_tm, w_addC, w_dOwn, w_dVal, w_dg, w_din, w_dget, w_dvals, w_ixI, w_meth, w_ixO, x_ixO, w_sumO,
  s_seq, s_nx, s_set, s_drop, s_ret, s_retN, s_if, s_asg, s_par2, s_par3, s_raise, s_ownC, s_ownL, s_mutO, s_own, s_addO, s_fldO, s_for, s_setI, s_turn, s_dput, s_par2O, s_par3O,
  ex_some, ex_if, ex_none, ex_bl, ex_int, ex_str, x_addI, x_addS, x_addT, x_addL, x_sub, x_mul, x_mod, x_div, x_pow, x_lt, x_le, x_gt, x_ge, x_neg, x_int, x_abs, x_min, x_max, x_lenS, x_lenL, x_lenW, x_lenT, x_eqS, x_neS, x_eqI, x_neI, x_isN, x_notN, x_ixL, x_ixW, x_ixT, x_ixS, x_tupL, x_tupT, x_frzL, x_frzT, x_frzW, x_enuL, x_enuT, x_seqL, x_seqT, x_gN, x_g2, x_listT, x_truL, x_slT, x_lenT, x_slL, x_fmt, x_boolT, x_eqBl, x_neBl, isi_bB, isi_t, x_inL, x_inT,
  List.getElem?_cons_zero, List.getElem?_cons_succ, List.set_cons_zero, List.set_cons_succ, List.length_nil, wipeL, decide_eq_true_eq, Bool.not_eq_true', decide_eq_false_iff_not, true_and, and_true])
/-! steps as they are drawn (third family) -/
section
variable {cs : Cells} {Z : D → Prop}
end
/-- what can be an end, as drawn -/
structure EndG (ss : List St) (r : Option St) (ppl : List Str) (d : D) : Prop where
  b : endB d = true
  g : gwN 5 1 d = true
  f : endF ss r ppl d = true
section
variable {tb : Tb} {cs : Cells} {b n : Nat} {Q : D → Cells → Prop} {E : Exn → Cells → Prop} {ss : List St} {r : Option St} {ppl : List Str}
end
end F

namespace F
open PySem L2
local macro_rules | `(tactic| walk_at "w") => `(tactic| simp only [w_run, w_var, w_c, w_1, w_2, w_N, w_bV, w_bNot, w_bOr, w_bAnd, w_xOr, w_xAnd, w_xNot, w_xIf, w_aNil, w_aCons, w_aStar, w_tup, w_lst, w_tupS, w_lstS, w_lstC, w_listC, w_oNone, w_oSome, w_sl, w_join, w_call, w_callS, w_chk, w_at, w_lenO, w_chain, w_tru, w_inO, w_xf, w_isX, w_eq, w_lc, w_iSeq, w_iEnu, w_iStr, w_iRng, w_yes, w_notT, w_binI, w_lenI, w_iEnuT, w_inI, w_prop, w_strI, w_boolI, w_js0, w_js, w_tm, w_addC, w_dOwn, w_dVal, w_dg, w_din, w_dget, w_dvals, w_ixI, w_meth, w_ixO, x_ixO, w_sumO,
  s_seq, s_nx, s_set, s_drop, s_ret, s_retN, s_if, s_asg, s_par2, s_par3, s_raise, s_ownC, s_ownL, s_mutO, s_own, s_addO, s_fldO, s_for, s_setI, s_turn, s_dput, s_par2O, s_par3O,
  ex_some, ex_if, ex_none, ex_bl, ex_int, ex_str, x_addI, x_addS, x_addT, x_addL, x_sub, x_mul, x_mod, x_div, x_pow, x_lt, x_le, x_gt, x_ge, x_neg, x_int, x_abs, x_min, x_max, x_lenS, x_lenL, x_lenW, x_lenT, x_eqS, x_neS, x_eqI, x_neI, x_isN, x_notN, x_ixL, x_ixW, x_ixT, x_ixS, x_tupL, x_tupT, x_frzL, x_frzT, x_frzW, x_enuL, x_enuT, x_seqL, x_seqT, x_gN, x_g2, x_listT, x_truL, x_slT, x_lenT, x_slL, x_fmt, x_boolT, x_eqBl, x_neBl, isi_bB, isi_t, x_inL, x_inT,
  List.getElem?_cons_zero, List.getElem?_cons_succ, List.set_cons_zero, List.set_cons_succ, List.length_nil, wipeL, decide_eq_true_eq, Bool.not_eq_true', decide_eq_false_iff_not, true_and, and_true])
/-! makes as they are drawn -/
/-- pairs whose keys are drawn from a list, in its order -/
structure PairsG (f : D → Prop) (ks : List Str) (zs : List D) : Prop where
  sub : (zs.map keyS).Sublist ks
  at_ : ∀ z ∈ zs, ∃ k v, z = .tup [.str k, v] ∧ k ∈ ks ∧ f v
theorem PairsG.nil {f : D → Prop} : PairsG f [] [] := ⟨.slnil, by simp⟩
theorem PairsG.skip {f : D → Prop} {ks : List Str} {zs : List D} {k : Str} (h : PairsG f ks zs) : PairsG f (ks ++ [k]) zs := ⟨h.sub.trans (List.sublist_append_left _ _), fun z hz => by
  obtain ⟨k', v, e, hk, hv⟩ := h.at_ z hz
  exact ⟨k', v, e, List.mem_append_left _ hk, hv⟩⟩
theorem PairsG.len {f : D → Prop} {ks : List Str} {zs : List D} (h : PairsG f ks zs) : zs.length ≤ ks.length := by
  have := h.sub.length_le
  rw [List.length_map] at this
  exact this
structure ToG (ss : List St) (r : Option St) (ppl : List Str) (d : D) : Prop where
  b : toB d = true
  g : gwN 5 1 d = true
  f : toF ss r ppl d = true
theorem EndG.to {ss : List St} {r : Option St} {ppl : List Str} {d : D} (h : EndG ss r ppl d) : ToG ss r ppl d := ⟨by unfold toB; rw [h.b]; simp, h.g, by unfold toF; rw [h.f]; simp⟩
section
variable {ss : List St} {r : Option St} {ppl : List Str}
end
end F

namespace F
open PySem L2
local macro_rules | `(tactic| walk_at "w") => `(tactic| simp only [w_run, w_var, w_c, w_1, w_2, w_N, w_bV, w_bNot, w_bOr, w_bAnd, w_xOr, w_xAnd, w_xNot, w_xIf, w_aNil, w_aCons, w_aStar, w_tup, w_lst, w_tupS, w_lstS, w_lstC, w_listC, w_oNone, w_oSome, w_sl, w_join, w_call, w_callS, w_chk, w_at, w_lenO, w_chain, w_tru, w_inO, w_xf, w_isX, w_eq, w_lc, w_iSeq, w_iEnu, w_iStr, w_iRng, w_yes, w_notT, w_binI, w_lenI, w_iEnuT, w_inI, w_prop, w_strI, w_boolI, w_js0, w_js, w_tm, w_addC, w_dOwn, w_dVal, w_dg, w_din, w_dget, w_dvals, w_ixI, w_meth, w_ixO, x_ixO, w_sumO,
  s_seq, s_nx, s_set, s_drop, s_ret, s_retN, s_if, s_asg, s_par2, s_par3, s_raise, s_ownC, s_ownL, s_mutO, s_own, s_addO, s_fldO, s_for, s_setI, s_turn, s_dput, s_par2O, s_par3O,
  ex_some, ex_if, ex_none, ex_bl, ex_int, ex_str, x_addI, x_addS, x_addT, x_addL, x_sub, x_mul, x_mod, x_div, x_pow, x_lt, x_le, x_gt, x_ge, x_neg, x_int, x_abs, x_min, x_max, x_lenS, x_lenL, x_lenW, x_lenT, x_eqS, x_neS, x_eqI, x_neI, x_isN, x_notN, x_ixL, x_ixW, x_ixT, x_ixS, x_tupL, x_tupT, x_frzL, x_frzT, x_frzW, x_enuL, x_enuT, x_seqL, x_seqT, x_gN, x_g2, x_listT, x_truL, x_slT, x_lenT, x_slL, x_fmt, x_boolT, x_eqBl, x_neBl, isi_bB, isi_t, x_inL, x_inT,
  List.getElem?_cons_zero, List.getElem?_cons_succ, List.set_cons_zero, List.set_cons_succ, List.length_nil, wipeL, decide_eq_true_eq, Bool.not_eq_true', decide_eq_false_iff_not, true_and, and_true])
/-! setup[name]; guard -/
section
variable {tb : Tb} {cs : Cells} {Q : D → Cells → Prop} {E : Exn → Cells → Prop}
abbrev noHandX (d : D) : Exn := mkX "NoHandler" ["handler"] [d]
end
/-! what a guard does -/
inductive GB
  | hand (d : D)
  | many
  | step (x : Str)
def GB.x : GB → Exn
  | .hand d => noHandX d
  | .many => manyX8
  | .step x => badStX x 0
end F

namespace F
open PySem L2
local macro_rules | `(tactic| walk_at "w") => `(tactic| simp only [w_run, w_var, w_c, w_1, w_2, w_N, w_bV, w_bNot, w_bOr, w_bAnd, w_xOr, w_xAnd, w_xNot, w_xIf, w_aNil, w_aCons, w_aStar, w_tup, w_lst, w_tupS, w_lstS, w_lstC, w_listC, w_oNone, w_oSome, w_sl, w_join, w_call, w_callS, w_chk, w_at, w_lenO, w_chain, w_tru, w_inO, w_xf, w_isX, w_eq, w_lc, w_iSeq, w_iEnu, w_iStr, w_iRng, w_yes, w_notT, w_binI, w_lenI, w_iEnuT, w_inI, w_prop, w_strI, w_boolI, w_js0, w_js, w_tm, w_addC, w_dOwn, w_dVal, w_dg, w_din, w_dget, w_dvals, w_ixI, w_meth, w_ixO, x_ixO, w_sumO,
  s_seq, s_nx, s_set, s_drop, s_ret, s_retN, s_if, s_asg, s_par2, s_par3, s_raise, s_ownC, s_ownL, s_mutO, s_own, s_addO, s_fldO, s_for, s_setI, s_turn, s_dput, s_par2O, s_par3O,
  ex_some, ex_if, ex_none, ex_bl, ex_int, ex_str, x_addI, x_addS, x_addT, x_addL, x_sub, x_mul, x_mod, x_div, x_pow, x_lt, x_le, x_gt, x_ge, x_neg, x_int, x_abs, x_min, x_max, x_lenS, x_lenL, x_lenW, x_lenT, x_eqS, x_neS, x_eqI, x_neI, x_isN, x_notN, x_ixL, x_ixW, x_ixT, x_ixS, x_tupL, x_tupT, x_frzL, x_frzT, x_frzW, x_enuL, x_enuT, x_seqL, x_seqT, x_gN, x_g2, x_listT, x_truL, x_slT, x_lenT, x_slL, x_fmt, x_boolT, x_eqBl, x_neBl, isi_bB, isi_t, x_inL, x_inT,
  List.getElem?_cons_zero, List.getElem?_cons_succ, List.set_cons_zero, List.set_cons_succ, List.length_nil, wipeL, decide_eq_true_eq, Bool.not_eq_true', decide_eq_false_iff_not, true_and, and_true])
/-! words of F55: t.index, zip -/
section
variable {cs : Cells} {l : Loc} {Q : D → Cells → Prop} {U : List D → Cells → Prop} {E : Exn → Cells → Prop} {fa fb fo fe : XE} {xs ys ds : List D} {Z : D → Prop}
theorem w_tix : wp (xTix fo fe l) cs Q E ↔ wp (fo l) cs (fun x cs1 => ∃ xs, tupOf x = some xs ∧ wp (fe l) cs1 (fun y cs2 => ∃ r, tixD xs y = some r ∧ Q r cs2) E) E := by unfold xTix; simp only [wp_bd, wp_rd]
theorem w_iZip : wp (iZip fa fb l) cs U E ↔ wp (fa l) cs (fun x cs1 => wp (fb l) cs1 (fun y cs2 => ∃ r, zipO x y = some r ∧ U r cs2) E) E := by unfold iZip; simp only [wp_bd, wp_rd]
theorem x_zip {Z : List D → Prop} : (∃ r, zipO (.tup xs) (.tup ys) = some r ∧ Z r) ↔ Z (zipD xs ys) := ex_some
theorem x_tupOf {Z : List D → Prop} : (∃ r, tupOf (.tup ds) = some r ∧ Z r) ↔ Z ds := ex_some
theorem x_g3 {k m n : Nat} {d e f : D} {Z : Loc → Prop} : (∃ r, gT 3 (gsCons (gN k) (gsCons (gN m) (gsCons (gN n) gsNil))) (.tup [d, e, f]) l cs = some r ∧ Z r) ↔ Z (((l.set k (.val d)).set m (.val e)).set n (.val f)) := ex_some
end
end F

namespace F
open PySem L2
local macro_rules | `(tactic| walk_at "w") => `(tactic| simp only [w_run, w_var, w_c, w_1, w_2, w_N, w_bV, w_bNot, w_bOr, w_bAnd, w_xOr, w_xAnd, w_xNot, w_xIf, w_aNil, w_aCons, w_aStar, w_tup, w_lst, w_tupS, w_lstS, w_lstC, w_listC, w_oNone, w_oSome, w_sl, w_join, w_call, w_callS, w_chk, w_at, w_lenO, w_chain, w_tru, w_inO, w_xf, w_isX, w_eq, w_lc, w_iSeq, w_iEnu, w_iStr, w_iRng, w_yes, w_notT, w_binI, w_lenI, w_iEnuT, w_inI, w_prop, w_strI, w_boolI, w_js0, w_js, w_tm, w_addC, w_dOwn, w_dVal, w_dg, w_din, w_dget, w_dvals, w_ixI, w_meth, w_ixO, x_ixO, w_sumO,
  s_seq, s_nx, s_set, s_drop, s_ret, s_retN, s_if, s_asg, s_par2, s_par3, s_raise, s_ownC, s_ownL, s_mutO, s_own, s_addO, s_fldO, s_for, s_setI, s_turn, s_dput, s_par2O, s_par3O,
  ex_some, ex_if, ex_none, ex_bl, ex_int, ex_str, x_addI, x_addS, x_addT, x_addL, x_sub, x_mul, x_mod, x_div, x_pow, x_lt, x_le, x_gt, x_ge, x_neg, x_int, x_abs, x_min, x_max, x_lenS, x_lenL, x_lenW, x_lenT, x_eqS, x_neS, x_eqI, x_neI, x_isN, x_notN, x_ixL, x_ixW, x_ixT, x_ixS, x_tupL, x_tupT, x_frzL, x_frzT, x_frzW, x_enuL, x_enuT, x_seqL, x_seqT, x_gN, x_g2, x_listT, x_truL, x_slT, x_lenT, x_slL, w_tix, w_iZip, x_zip, x_tupOf, x_g3, x_fmt, x_boolT, x_eqBl, x_neBl, isi_bB, isi_t, x_inL, x_inT,
  List.getElem?_cons_zero, List.getElem?_cons_succ, List.set_cons_zero, List.set_cons_succ, List.length_nil, wipeL, decide_eq_true_eq, Bool.not_eq_true', decide_eq_false_iff_not, true_and, and_true])
/-! patterns of rows: their levels, and places seen from a row -/
structure Lv where
  st : Str
  refs : List Str
  flds : List Str
/-- a level of a store -/
structure LvOk (s : St) (v : Lv) : Prop where
  n : v.st = s.name
  r : v.refs.length = s.refs.length
  f : v.flds.length = s.fields.length
/-- the levels of a row of s upwards -/
def PatS (ss : List St) (s : St) (p : List Lv) : Prop := ∀ (i : Nat) v, p[i]? = some v → ∃ t, chainUp ss i s = some t ∧ LvOk t v
theorem PatS.nil {ss : List St} {s : St} : PatS ss s [] := fun i v h => by simp at h
theorem PatS.take {ss : List St} {s : St} {p : List Lv} (h : PatS ss s p) (k : Nat) : PatS ss s (p.take k) := fun i v hv => by
  rw [List.getElem?_take] at hv
  split at hv
  · exact h i v hv
  · cases hv
theorem chainUp_add {ss : List St} : ∀ (k i : Nat) {s t : St}, chainUp ss k s = some t → chainUp ss (k + i) s = chainUp ss i t
  | 0, i, s, t, h => by
    have h : some s = some t := h
    cases h
    rw [Nat.zero_add]
  | k + 1, i, s, t, h => by
    rw [Nat.add_right_comm]
    cases hu : s.under with
    | none => simp [chainUp, hu] at h
    | some u =>
      cases hf : findS ss u with
      | none => simp [chainUp, hu, hf] at h
      | some w =>
        simp only [chainUp, hu, hf] at h ⊢
        exact chainUp_add k i h
theorem PatS.drop {ss : List St} {s t : St} {p : List Lv} (h : PatS ss s p) {k : Nat} (ht : chainUp ss k s = some t) : PatS ss t (p.drop k) := fun i v hv => by
  rw [List.getElem?_drop] at hv
  obtain ⟨u, hu, o⟩ := h (k + i) v hv
  exact ⟨u, by rw [← chainUp_add k i ht]; exact hu, o⟩
section
variable {tb : Tb} {cs : Cells} {Q : D → Cells → Prop} {E : Exn → Cells → Prop} {c : Sch} {s : St} {p : List Lv} {i : Nat} {y : Str}
/-! the law's own -/
end
end F

namespace F
open PySem L2
local macro_rules | `(tactic| walk_at "w") => `(tactic| simp only [w_run, w_var, w_c, w_1, w_2, w_N, w_bV, w_bNot, w_bOr, w_bAnd, w_xOr, w_xAnd, w_xNot, w_xIf, w_aNil, w_aCons, w_aStar, w_tup, w_lst, w_tupS, w_lstS, w_lstC, w_listC, w_oNone, w_oSome, w_sl, w_join, w_call, w_callS, w_chk, w_at, w_lenO, w_chain, w_tru, w_inO, w_xf, w_isX, w_eq, w_lc, w_iSeq, w_iEnu, w_iStr, w_iRng, w_yes, w_notT, w_binI, w_lenI, w_iEnuT, w_inI, w_prop, w_strI, w_boolI, w_js0, w_js, w_tm, w_addC, w_dOwn, w_dVal, w_dg, w_din, w_dget, w_dvals, w_ixI, w_meth, w_ixO, x_ixO, w_sumO,
  s_seq, s_nx, s_set, s_drop, s_ret, s_retN, s_if, s_asg, s_par2, s_par3, s_raise, s_ownC, s_ownL, s_mutO, s_own, s_addO, s_fldO, s_for, s_setI, s_turn, s_dput, s_par2O, s_par3O,
  ex_some, ex_if, ex_none, ex_bl, ex_int, ex_str, x_addI, x_addS, x_addT, x_addL, x_sub, x_mul, x_mod, x_div, x_pow, x_lt, x_le, x_gt, x_ge, x_neg, x_int, x_abs, x_min, x_max, x_lenS, x_lenL, x_lenW, x_lenT, x_eqS, x_neS, x_eqI, x_neI, x_isN, x_notN, x_ixL, x_ixW, x_ixT, x_ixS, x_tupL, x_tupT, x_frzL, x_frzT, x_frzW, x_enuL, x_enuT, x_seqL, x_seqT, x_gN, x_g2, x_listT, x_truL, x_slT, x_lenT, x_slL, w_tix, w_iZip, x_zip, x_tupOf, x_g3, x_fmt, x_boolT, x_eqBl, x_neBl, isi_bB, isi_t, x_inL, x_inT,
  List.getElem?_cons_zero, List.getElem?_cons_succ, List.set_cons_zero, List.set_cons_succ, List.length_nil, wipeL, decide_eq_true_eq, Bool.not_eq_true', decide_eq_false_iff_not, true_and, and_true])
/-! a pattern as it is drawn (third family) -/
/-- what stands in the levels -/
def TxOk (L X : List Str) (p : List Lv) : Prop := ∀ v ∈ p, (∀ x ∈ v.refs, x ∈ L) ∧ ∀ x ∈ v.flds, x ∈ X
section
variable {tb : Tb} {cs : Cells} {b n N : Nat} {Q : D → Cells → Prop} {E : Exn → Cells → Prop} {ss : List St}
end
end F

namespace F
open PySem L2
local macro_rules | `(tactic| walk_at "w") => `(tactic| simp only [w_run, w_var, w_c, w_1, w_2, w_N, w_bV, w_bNot, w_bOr, w_bAnd, w_xOr, w_xAnd, w_xNot, w_xIf, w_aNil, w_aCons, w_aStar, w_tup, w_lst, w_tupS, w_lstS, w_lstC, w_listC, w_oNone, w_oSome, w_sl, w_join, w_call, w_callS, w_chk, w_at, w_lenO, w_chain, w_tru, w_inO, w_xf, w_isX, w_eq, w_lc, w_iSeq, w_iEnu, w_iStr, w_iRng, w_yes, w_notT, w_binI, w_lenI, w_iEnuT, w_inI, w_prop, w_strI, w_boolI, w_js0, w_js, w_tm, w_addC, w_dOwn, w_dVal, w_dg, w_din, w_dget, w_dvals, w_ixI, w_meth, w_ixO, x_ixO, w_sumO,
  s_seq, s_nx, s_set, s_drop, s_ret, s_retN, s_if, s_asg, s_par2, s_par3, s_raise, s_ownC, s_ownL, s_mutO, s_own, s_addO, s_fldO, s_for, s_setI, s_turn, s_dput, s_par2O, s_par3O,
  ex_some, ex_if, ex_none, ex_bl, ex_int, ex_str, x_addI, x_addS, x_addT, x_addL, x_sub, x_mul, x_mod, x_div, x_pow, x_lt, x_le, x_gt, x_ge, x_neg, x_int, x_abs, x_min, x_max, x_lenS, x_lenL, x_lenW, x_lenT, x_eqS, x_neS, x_eqI, x_neI, x_isN, x_notN, x_ixL, x_ixW, x_ixT, x_ixS, x_tupL, x_tupT, x_frzL, x_frzT, x_frzW, x_enuL, x_enuT, x_seqL, x_seqT, x_gN, x_g2, x_listT, x_truL, x_slT, x_lenT, x_slL, w_tix, w_iZip, x_zip, x_tupOf, x_g3, x_fmt, x_boolT, x_eqBl, x_neBl, isi_bB, isi_t, x_inL, x_inT,
  List.getElem?_cons_zero, List.getElem?_cons_succ, List.set_cons_zero, List.set_cons_succ, List.length_nil, wipeL, decide_eq_true_eq, Bool.not_eq_true', decide_eq_false_iff_not, true_and, and_true])
/-! holds of rows; a step of an erasure on the levels of a row -/
inductive Ek where
  | del
  | blank (f : Str)
  | cut (r : Str)
def Ek.w : Ek → Str
  | .del => "delete"
  | .blank _ => "blank"
  | .cut _ => "cut"
def Ek.fit (s : St) : Ek → Prop
  | .del => True
  | .blank f => f ∈ s.fields
  | .cut r => r ∈ s.refs ∨ (r = "up" ∧ s.under ≠ none)
/-- the texts with that of a part taken away -/
def gone (ws xs : List Str) (y : Str) : List Str := (ws.zip xs).map fun q => if q.1 = y then "" else q.2
def chgL (s : St) : Ek → Lv → Lv
  | .del, v => v
  | .blank f, v => ⟨v.st, v.refs, gone s.fields v.flds f⟩
  | .cut r, v => ⟨v.st, gone s.refs v.refs r, v.flds⟩
def chgAt (ss : List St) (s : St) (k : Ek) (i : Nat) (v : Lv) : Lv := match chainUp ss i s with
  | some t => chgL t k v
  | none => v
theorem gone_len {ws xs : List Str} {y : Str} (h : xs.length = ws.length) : (gone ws xs y).length = ws.length := by
  unfold gone
  rw [List.length_map, List.length_zip]
  omega
theorem chgL_ok {s : St} {k : Ek} {v : Lv} (o : LvOk s v) : LvOk s (chgL s k v) := by
  cases k with
  | del => exact o
  | blank f => exact ⟨o.n, o.r, gone_len o.f⟩
  | cut r => exact ⟨o.n, gone_len o.r, o.f⟩
/-! names of a chain are different -/
theorem s_ct {l : Loc} {cs : Cells} {P : Fl → Cells → Prop} : wpS (sCt l cs) P ↔ P (.ct l) cs := Iff.rfl
section
variable {tb : Tb} {cs : Cells} {Q : D → Cells → Prop} {E : Exn → Cells → Prop} {c : Sch} {s : St} {p : List Lv} {i : Nat} {y : Str}
theorem w_tupO {l : Loc} : wp (xTupO i l) cs Q E ↔ (match l[i]? with | some (.own (.lst xs)) => Q (.tup xs) cs | _ => False) := by
  unfold xTupO
  generalize l[i]? = o
  rcases o with _ | s
  · exact Iff.rfl
  · cases s with
    | own c => cases c <;> exact Iff.rfl
    | _ => exact Iff.rfl
theorem x_at0 {a : D} {xs : List D} {Z : D → Prop} : (∃ r, atI (a :: xs) 0 = some r ∧ Z r) ↔ Z a := by
  rw [show atI _ (0 : Int) = some a from atI_nat (k := 0) (x := a) rfl]
  exact ex_some
theorem x_at1 {a b : D} {xs : List D} {Z : D → Prop} : (∃ r, atI (a :: b :: xs) 1 = some r ∧ Z r) ↔ Z b := by
  rw [show atI _ (1 : Int) = some b from atI_nat (k := 1) (x := b) rfl]
  exact ex_some
theorem x_at2 {a b c : D} {xs : List D} {Z : D → Prop} : (∃ r, atI (a :: b :: c :: xs) 2 = some r ∧ Z r) ↔ Z c := by
  rw [show atI _ (2 : Int) = some c from atI_nat (k := 2) (x := c) rfl]
  exact ex_some
theorem x_at3 {a b c d : D} {xs : List D} {Z : D → Prop} : (∃ r, atI (a :: b :: c :: d :: xs) 3 = some r ∧ Z r) ↔ Z d := by
  rw [show atI _ (3 : Int) = some d from atI_nat (k := 3) (x := d) rfl]
  exact ex_some
end
end F

namespace F
open PySem L2
local macro_rules | `(tactic| walk_at "w") => `(tactic| simp only [w_run, w_var, w_c, w_1, w_2, w_N, w_bV, w_bNot, w_bOr, w_bAnd, w_xOr, w_xAnd, w_xNot, w_xIf, w_aNil, w_aCons, w_aStar, w_tup, w_lst, w_tupS, w_lstS, w_lstC, w_listC, w_oNone, w_oSome, w_sl, w_join, w_call, w_callS, w_chk, w_at, w_lenO, w_chain, w_tru, w_inO, w_xf, w_isX, w_eq, w_lc, w_iSeq, w_iEnu, w_iStr, w_iRng, w_yes, w_notT, w_binI, w_lenI, w_iEnuT, w_inI, w_prop, w_strI, w_boolI, w_js0, w_js, w_tm, w_addC, w_dOwn, w_dVal, w_dg, w_din, w_dget, w_dvals, w_ixI, w_meth, w_ixO, x_ixO, w_sumO,
  s_seq, s_nx, s_set, s_drop, s_ret, s_retN, s_if, s_asg, s_par2, s_par3, s_raise, s_ownC, s_ownL, s_mutO, s_own, s_addO, s_fldO, s_for, s_setI, s_turn, s_dput, s_par2O, s_par3O, s_ct, w_tupO, x_at0, x_at1, x_at2, x_at3,
  ex_some, ex_if, ex_none, ex_bl, ex_int, ex_str, x_addI, x_addS, x_addT, x_addL, x_sub, x_mul, x_mod, x_div, x_pow, x_lt, x_le, x_gt, x_ge, x_neg, x_int, x_abs, x_min, x_max, x_lenS, x_lenL, x_lenW, x_lenT, x_eqS, x_neS, x_eqI, x_neI, x_isN, x_notN, x_ixL, x_ixW, x_ixT, x_ixS, x_tupL, x_tupT, x_frzL, x_frzT, x_frzW, x_enuL, x_enuT, x_seqL, x_seqT, x_gN, x_g2, x_listT, x_truL, x_slT, x_lenT, x_slL, w_tix, w_iZip, x_zip, x_tupOf, x_g3, x_fmt, x_boolT, x_eqBl, x_neBl, isi_bB, isi_t, x_inL, x_inT,
  List.getElem?_cons_zero, List.getElem?_cons_succ, List.set_cons_zero, List.set_cons_succ, List.length_nil, wipeL, decide_eq_true_eq, Bool.not_eq_true', decide_eq_false_iff_not, true_and, and_true])
/-! a step on the levels of a row; the fate -/
theorem PatS.mod {ss : List St} {s : St} {p : List Lv} (h : PatS ss s p) (k : Ek) (i : Nat) : PatS ss s (p.modify i (chgAt ss s k i)) := fun j v hv => by
  rw [List.getElem?_modify] at hv
  cases hj : p[j]? with
  | none => rw [hj] at hv; cases hv
  | some w =>
    rw [hj] at hv
    obtain ⟨t, ht, o⟩ := h j w hj
    by_cases e : i = j
    · subst e
      simp at hv
      subst hv
      refine ⟨t, ht, ?_⟩
      unfold chgAt
      rw [ht]
      exact chgL_ok o
    · simp [e] at hv
      subst hv
      exact ⟨t, ht, o⟩
theorem gone_mem {ws xs : List Str} {y x : Str} (h : x ∈ gone ws xs y) : x = "" ∨ x ∈ xs := by
  obtain ⟨q, hq, rfl⟩ := List.mem_map.mp h
  split
  · exact .inl rfl
  · exact .inr (List.of_mem_zip hq).2
theorem TxOk.mod {L X : List Str} {p : List Lv} (hL : ("" : Str) ∈ L) (hX : ("" : Str) ∈ X) (h : TxOk L X p) {ss : List St} {s : St} (k : Ek) (i : Nat) : TxOk L X (p.modify i (chgAt ss s k i)) := fun v hv => by
  obtain ⟨j, hj⟩ := List.mem_iff_getElem?.mp hv
  rw [List.getElem?_modify] at hj
  cases hp : p[j]? with
  | none => rw [hp] at hj; cases hj
  | some w =>
    rw [hp] at hj
    obtain ⟨h1, h2⟩ := h w (List.mem_of_getElem? hp)
    by_cases e : i = j
    · simp [e] at hj
      subst hj
      unfold chgAt
      split
      · cases k with
        | del => exact ⟨h1, h2⟩
        | blank f => exact ⟨h1, fun x hx => (gone_mem hx).elim (fun z => z ▸ hX) (h2 x)⟩
        | cut r => exact ⟨fun x hx => (gone_mem hx).elim (fun z => z ▸ hL) (h1 x), h2⟩
      · exact ⟨h1, h2⟩
    · simp [e] at hj
      subst hj
      exact ⟨h1, h2⟩
theorem TxOk.take {L X : List Str} {p : List Lv} (h : TxOk L X p) (i : Nat) : TxOk L X (p.take i) := fun v hv => h v (List.mem_of_mem_take hv)
section
variable {tb : Tb} {cs : Cells} {Q : D → Cells → Prop} {E : Exn → Cells → Prop} {c : Sch} {s : St} {p : List Lv} {i : Nat} {y : Str}
end
end F

namespace F
open PySem L2
local macro_rules | `(tactic| walk_at "w") => `(tactic| simp only [w_run, w_var, w_c, w_1, w_2, w_N, w_bV, w_bNot, w_bOr, w_bAnd, w_xOr, w_xAnd, w_xNot, w_xIf, w_aNil, w_aCons, w_aStar, w_tup, w_lst, w_tupS, w_lstS, w_lstC, w_listC, w_oNone, w_oSome, w_sl, w_join, w_call, w_callS, w_chk, w_at, w_lenO, w_chain, w_tru, w_inO, w_xf, w_isX, w_eq, w_lc, w_iSeq, w_iEnu, w_iStr, w_iRng, w_yes, w_notT, w_binI, w_lenI, w_iEnuT, w_inI, w_prop, w_strI, w_boolI, w_js0, w_js, w_tm, w_addC, w_dOwn, w_dVal, w_dg, w_din, w_dget, w_dvals, w_ixI, w_meth, w_ixO, x_ixO, w_sumO,
  s_seq, s_nx, s_set, s_drop, s_ret, s_retN, s_if, s_asg, s_par2, s_par3, s_raise, s_ownC, s_ownL, s_mutO, s_own, s_addO, s_fldO, s_for, s_setI, s_turn, s_dput, s_par2O, s_par3O, s_ct, w_tupO, x_at0, x_at1, x_at2, x_at3,
  ex_some, ex_if, ex_none, ex_bl, ex_int, ex_str, x_addI, x_addS, x_addT, x_addL, x_sub, x_mul, x_mod, x_div, x_pow, x_lt, x_le, x_gt, x_ge, x_neg, x_int, x_abs, x_min, x_max, x_lenS, x_lenL, x_lenW, x_lenT, x_eqS, x_neS, x_eqI, x_neI, x_isN, x_notN, x_ixL, x_ixW, x_ixT, x_ixS, x_tupL, x_tupT, x_frzL, x_frzT, x_frzW, x_enuL, x_enuT, x_seqL, x_seqT, x_gN, x_g2, x_listT, x_truL, x_slT, x_lenT, x_slL, w_tix, w_iZip, x_zip, x_tupOf, x_g3, x_fmt, x_boolT, x_eqBl, x_neBl, isi_bB, isi_t, x_inL, x_inT,
  List.getElem?_cons_zero, List.getElem?_cons_succ, List.set_cons_zero, List.set_cons_succ, List.length_nil, wipeL, decide_eq_true_eq, Bool.not_eq_true', decide_eq_false_iff_not, true_and, and_true])
/-! the law's own: holds, steps, fates (third family) -/
def Ext (cs cs' : Cells) : Prop := ∃ ex, cs' = cs ++ ex
theorem Ext.trans {a b c : Cells} (h : Ext a b) (g : Ext b c) : Ext a c := by
  obtain ⟨x, rfl⟩ := h
  obtain ⟨y, rfl⟩ := g
  exact ⟨x ++ y, by rw [List.append_assoc]⟩
section
variable {tb : Tb} {cs : Cells} {Q : D → Cells → Prop} {E : Exn → Cells → Prop} {c : Sch} {s : St} {p : List Lv} {i : Nat} {y : Str}
end
end F

namespace F
open PySem PySem.Spec PyProof.Rows L2 SX He
abbrev s_BadNamex_initx : Stmt := inClass (top 1) 0
abbrev N_BadNamex_initx : List Str := ["self", "name"]
abbrev p_BadNamex_initx : List Str := ["self", "name"]
theorem sc_BadNamex_initx : FnScope N_BadNamex_initx p_BadNamex_initx (defScope s_BadNamex_initx) := ⟨rfl, rfl, rfl, by decide +kernel, rfl, by decide +kernel, by decide +kernel⟩
theorem o_BadNamex_initx {P : Program} {w : World} {K : PySem.W.Frag} {mg : Str → Option Value} {base : Heap} {Cl f : Addr} {fd : FuncData} {dvs : List V} {kws : List (Str × V)} (Fd : FunD K "__init__" "BadName.__init__" (defArgs s_BadNamex_initx) (defBody s_BadNamex_initx) (defScope s_BadNamex_initx) dvs kws f fd) : FnOk P w K mg base CX0 1 f fd p_BadNamex_initx (spE K Cl ["name"]) :=
  Fd.ok sc_BadNamex_initx (fun vs H Q Er ⟨a, ys, e, l, _⟩ => by rw [e]; simp [l]) fun cdv A outer s H vs Q Er hr h => ⟨(E.tOsB K "name" (tVar 0) (tVar 1)), PSs.nox (pss_one (E.ps_osB (pv 0) (pv 1))), by
    have l : vs.length = 2 := by
      obtain ⟨a, ys, e, l, _⟩ := h
      rw [e]
      simp [l]
    have e : L2.start N_BadNamex_initx vs = vs.map some := by
      unfold L2.start
      rw [l]
      exact List.append_nil _
    rw [e]
    exact ox1 h⟩

abbrev s_Twicex_initx : Stmt := inClass (top 2) 0
abbrev N_Twicex_initx : List Str := ["self", "name"]
abbrev p_Twicex_initx : List Str := ["self", "name"]
theorem sc_Twicex_initx : FnScope N_Twicex_initx p_Twicex_initx (defScope s_Twicex_initx) := ⟨rfl, rfl, rfl, by decide +kernel, rfl, by decide +kernel, by decide +kernel⟩
theorem o_Twicex_initx {P : Program} {w : World} {K : PySem.W.Frag} {mg : Str → Option Value} {base : Heap} {Cl f : Addr} {fd : FuncData} {dvs : List V} {kws : List (Str × V)} (Fd : FunD K "__init__" "Twice.__init__" (defArgs s_Twicex_initx) (defBody s_Twicex_initx) (defScope s_Twicex_initx) dvs kws f fd) : FnOk P w K mg base CX0 1 f fd p_Twicex_initx (spE K Cl ["name"]) :=
  Fd.ok sc_Twicex_initx (fun vs H Q Er ⟨a, ys, e, l, _⟩ => by rw [e]; simp [l]) fun cdv A outer s H vs Q Er hr h => ⟨(E.tOsB K "name" (tVar 0) (tVar 1)), PSs.nox (pss_one (E.ps_osB (pv 0) (pv 1))), by
    have l : vs.length = 2 := by
      obtain ⟨a, ys, e, l, _⟩ := h
      rw [e]
      simp [l]
    have e : L2.start N_Twicex_initx vs = vs.map some := by
      unfold L2.start
      rw [l]
      exact List.append_nil _
    rw [e]
    exact ox1 h⟩

abbrev s_BadValuex_initx : Stmt := inClass (top 3) 0
abbrev N_BadValuex_initx : List Str := ["self", "value"]
abbrev p_BadValuex_initx : List Str := ["self", "value"]
theorem sc_BadValuex_initx : FnScope N_BadValuex_initx p_BadValuex_initx (defScope s_BadValuex_initx) := ⟨rfl, rfl, rfl, by decide +kernel, rfl, by decide +kernel, by decide +kernel⟩
theorem o_BadValuex_initx {P : Program} {w : World} {K : PySem.W.Frag} {mg : Str → Option Value} {base : Heap} {Cl f : Addr} {fd : FuncData} {dvs : List V} {kws : List (Str × V)} (Fd : FunD K "__init__" "BadValue.__init__" (defArgs s_BadValuex_initx) (defBody s_BadValuex_initx) (defScope s_BadValuex_initx) dvs kws f fd) : FnOk P w K mg base CX0 1 f fd p_BadValuex_initx (spE K Cl ["value"]) :=
  Fd.ok sc_BadValuex_initx (fun vs H Q Er ⟨a, ys, e, l, _⟩ => by rw [e]; simp [l]) fun cdv A outer s H vs Q Er hr h => ⟨(E.tOsB K "value" (tVar 0) (tVar 1)), PSs.nox (pss_one (E.ps_osB (pv 0) (pv 1))), by
    have l : vs.length = 2 := by
      obtain ⟨a, ys, e, l, _⟩ := h
      rw [e]
      simp [l]
    have e : L2.start N_BadValuex_initx vs = vs.map some := by
      unfold L2.start
      rw [l]
      exact List.append_nil _
    rw [e]
    exact ox1 h⟩

abbrev s_BadStepx_initx : Stmt := inClass (top 4) 0
abbrev N_BadStepx_initx : List Str := ["self", "handler", "index"]
abbrev p_BadStepx_initx : List Str := ["self", "handler", "index"]
theorem sc_BadStepx_initx : FnScope N_BadStepx_initx p_BadStepx_initx (defScope s_BadStepx_initx) := ⟨rfl, rfl, rfl, by decide +kernel, rfl, by decide +kernel, by decide +kernel⟩
theorem o_BadStepx_initx {P : Program} {w : World} {K : PySem.W.Frag} {mg : Str → Option Value} {base : Heap} {Cl f : Addr} {fd : FuncData} {dvs : List V} {kws : List (Str × V)} (Fd : FunD K "__init__" "BadStep.__init__" (defArgs s_BadStepx_initx) (defBody s_BadStepx_initx) (defScope s_BadStepx_initx) dvs kws f fd) : FnOk P w K mg base CX0 1 f fd p_BadStepx_initx (spE K Cl ["handler", "index"]) :=
  Fd.ok sc_BadStepx_initx (fun vs H Q Er ⟨a, ys, e, l, _⟩ => by rw [e]; simp [l]) fun cdv A outer s H vs Q Er hr h => ⟨(tSeq (E.tOsB K "handler" (tVar 0) (tVar 1)) (E.tOsB K "index" (tVar 0) (tVar 2))), PSs.nox (pss_cons (E.ps_osB (pv 0) (pv 1)) (pss_one (E.ps_osB (pv 0) (pv 2)))), by
    have l : vs.length = 3 := by
      obtain ⟨a, ys, e, l, _⟩ := h
      rw [e]
      simp [l]
    have e : L2.start N_BadStepx_initx vs = vs.map some := by
      unfold L2.start
      rw [l]
      exact List.append_nil _
    rw [e]
    exact ox2 h⟩

abbrev s_BadErasingx_initx : Stmt := inClass (top 5) 0
abbrev N_BadErasingx_initx : List Str := ["self", "index"]
abbrev p_BadErasingx_initx : List Str := ["self", "index"]
theorem sc_BadErasingx_initx : FnScope N_BadErasingx_initx p_BadErasingx_initx (defScope s_BadErasingx_initx) := ⟨rfl, rfl, rfl, by decide +kernel, rfl, by decide +kernel, by decide +kernel⟩
theorem o_BadErasingx_initx {P : Program} {w : World} {K : PySem.W.Frag} {mg : Str → Option Value} {base : Heap} {Cl f : Addr} {fd : FuncData} {dvs : List V} {kws : List (Str × V)} (Fd : FunD K "__init__" "BadErasing.__init__" (defArgs s_BadErasingx_initx) (defBody s_BadErasingx_initx) (defScope s_BadErasingx_initx) dvs kws f fd) : FnOk P w K mg base CX0 1 f fd p_BadErasingx_initx (spE K Cl ["index"]) :=
  Fd.ok sc_BadErasingx_initx (fun vs H Q Er ⟨a, ys, e, l, _⟩ => by rw [e]; simp [l]) fun cdv A outer s H vs Q Er hr h => ⟨(E.tOsB K "index" (tVar 0) (tVar 1)), PSs.nox (pss_one (E.ps_osB (pv 0) (pv 1))), by
    have l : vs.length = 2 := by
      obtain ⟨a, ys, e, l, _⟩ := h
      rw [e]
      simp [l]
    have e : L2.start N_BadErasingx_initx vs = vs.map some := by
      unfold L2.start
      rw [l]
      exact List.append_nil _
    rw [e]
    exact ox1 h⟩

abbrev s_BadLinex_initx : Stmt := inClass (top 6) 0
abbrev N_BadLinex_initx : List Str := ["self", "index"]
abbrev p_BadLinex_initx : List Str := ["self", "index"]
theorem sc_BadLinex_initx : FnScope N_BadLinex_initx p_BadLinex_initx (defScope s_BadLinex_initx) := ⟨rfl, rfl, rfl, by decide +kernel, rfl, by decide +kernel, by decide +kernel⟩
theorem o_BadLinex_initx {P : Program} {w : World} {K : PySem.W.Frag} {mg : Str → Option Value} {base : Heap} {Cl f : Addr} {fd : FuncData} {dvs : List V} {kws : List (Str × V)} (Fd : FunD K "__init__" "BadLine.__init__" (defArgs s_BadLinex_initx) (defBody s_BadLinex_initx) (defScope s_BadLinex_initx) dvs kws f fd) : FnOk P w K mg base CX0 1 f fd p_BadLinex_initx (spE K Cl ["index"]) :=
  Fd.ok sc_BadLinex_initx (fun vs H Q Er ⟨a, ys, e, l, _⟩ => by rw [e]; simp [l]) fun cdv A outer s H vs Q Er hr h => ⟨(E.tOsB K "index" (tVar 0) (tVar 1)), PSs.nox (pss_one (E.ps_osB (pv 0) (pv 1))), by
    have l : vs.length = 2 := by
      obtain ⟨a, ys, e, l, _⟩ := h
      rw [e]
      simp [l]
    have e : L2.start N_BadLinex_initx vs = vs.map some := by
      unfold L2.start
      rw [l]
      exact List.append_nil _
    rw [e]
    exact ox1 h⟩

abbrev s_BadEventx_initx : Stmt := inClass (top 7) 0
abbrev N_BadEventx_initx : List Str := ["self", "event"]
abbrev p_BadEventx_initx : List Str := ["self", "event"]
theorem sc_BadEventx_initx : FnScope N_BadEventx_initx p_BadEventx_initx (defScope s_BadEventx_initx) := ⟨rfl, rfl, rfl, by decide +kernel, rfl, by decide +kernel, by decide +kernel⟩
theorem o_BadEventx_initx {P : Program} {w : World} {K : PySem.W.Frag} {mg : Str → Option Value} {base : Heap} {Cl f : Addr} {fd : FuncData} {dvs : List V} {kws : List (Str × V)} (Fd : FunD K "__init__" "BadEvent.__init__" (defArgs s_BadEventx_initx) (defBody s_BadEventx_initx) (defScope s_BadEventx_initx) dvs kws f fd) : FnOk P w K mg base CX0 1 f fd p_BadEventx_initx (spE K Cl ["event"]) :=
  Fd.ok sc_BadEventx_initx (fun vs H Q Er ⟨a, ys, e, l, _⟩ => by rw [e]; simp [l]) fun cdv A outer s H vs Q Er hr h => ⟨(E.tOsB K "event" (tVar 0) (tVar 1)), PSs.nox (pss_one (E.ps_osB (pv 0) (pv 1))), by
    have l : vs.length = 2 := by
      obtain ⟨a, ys, e, l, _⟩ := h
      rw [e]
      simp [l]
    have e : L2.start N_BadEventx_initx vs = vs.map some := by
      unfold L2.start
      rw [l]
      exact List.append_nil _
    rw [e]
    exact ox1 h⟩

abbrev s_BadPeoplex_initx : Stmt := inClass (top 8) 0
abbrev N_BadPeoplex_initx : List Str := ["self", "many"]
abbrev p_BadPeoplex_initx : List Str := ["self", "many"]
theorem sc_BadPeoplex_initx : FnScope N_BadPeoplex_initx p_BadPeoplex_initx (defScope s_BadPeoplex_initx) := ⟨rfl, rfl, rfl, by decide +kernel, rfl, by decide +kernel, by decide +kernel⟩
theorem o_BadPeoplex_initx {P : Program} {w : World} {K : PySem.W.Frag} {mg : Str → Option Value} {base : Heap} {Cl f : Addr} {fd : FuncData} {dvs : List V} {kws : List (Str × V)} (Fd : FunD K "__init__" "BadPeople.__init__" (defArgs s_BadPeoplex_initx) (defBody s_BadPeoplex_initx) (defScope s_BadPeoplex_initx) dvs kws f fd) : FnOk P w K mg base CX0 1 f fd p_BadPeoplex_initx (spE K Cl ["many"]) :=
  Fd.ok sc_BadPeoplex_initx (fun vs H Q Er ⟨a, ys, e, l, _⟩ => by rw [e]; simp [l]) fun cdv A outer s H vs Q Er hr h => ⟨(E.tOsB K "many" (tVar 0) (tVar 1)), PSs.nox (pss_one (E.ps_osB (pv 0) (pv 1))), by
    have l : vs.length = 2 := by
      obtain ⟨a, ys, e, l, _⟩ := h
      rw [e]
      simp [l]
    have e : L2.start N_BadPeoplex_initx vs = vs.map some := by
      unfold L2.start
      rw [l]
      exact List.append_nil _
    rw [e]
    exact ox1 h⟩

abbrev s_BadPatternx_initx : Stmt := inClass (top 9) 0
abbrev N_BadPatternx_initx : List Str := ["self", "pattern"]
abbrev p_BadPatternx_initx : List Str := ["self", "pattern"]
theorem sc_BadPatternx_initx : FnScope N_BadPatternx_initx p_BadPatternx_initx (defScope s_BadPatternx_initx) := ⟨rfl, rfl, rfl, by decide +kernel, rfl, by decide +kernel, by decide +kernel⟩
theorem o_BadPatternx_initx {P : Program} {w : World} {K : PySem.W.Frag} {mg : Str → Option Value} {base : Heap} {Cl f : Addr} {fd : FuncData} {dvs : List V} {kws : List (Str × V)} (Fd : FunD K "__init__" "BadPattern.__init__" (defArgs s_BadPatternx_initx) (defBody s_BadPatternx_initx) (defScope s_BadPatternx_initx) dvs kws f fd) : FnOk P w K mg base CX0 1 f fd p_BadPatternx_initx (spE K Cl ["pattern"]) :=
  Fd.ok sc_BadPatternx_initx (fun vs H Q Er ⟨a, ys, e, l, _⟩ => by rw [e]; simp [l]) fun cdv A outer s H vs Q Er hr h => ⟨(E.tOsB K "pattern" (tVar 0) (tVar 1)), PSs.nox (pss_one (E.ps_osB (pv 0) (pv 1))), by
    have l : vs.length = 2 := by
      obtain ⟨a, ys, e, l, _⟩ := h
      rw [e]
      simp [l]
    have e : L2.start N_BadPatternx_initx vs = vs.map some := by
      unfold L2.start
      rw [l]
      exact List.append_nil _
    rw [e]
    exact ox1 h⟩

abbrev s_BadStatex_initx : Stmt := inClass (top 10) 0
abbrev N_BadStatex_initx : List Str := ["self", "index"]
abbrev p_BadStatex_initx : List Str := ["self", "index"]
theorem sc_BadStatex_initx : FnScope N_BadStatex_initx p_BadStatex_initx (defScope s_BadStatex_initx) := ⟨rfl, rfl, rfl, by decide +kernel, rfl, by decide +kernel, by decide +kernel⟩
theorem o_BadStatex_initx {P : Program} {w : World} {K : PySem.W.Frag} {mg : Str → Option Value} {base : Heap} {Cl f : Addr} {fd : FuncData} {dvs : List V} {kws : List (Str × V)} (Fd : FunD K "__init__" "BadState.__init__" (defArgs s_BadStatex_initx) (defBody s_BadStatex_initx) (defScope s_BadStatex_initx) dvs kws f fd) : FnOk P w K mg base CX0 1 f fd p_BadStatex_initx (spE K Cl ["index"]) :=
  Fd.ok sc_BadStatex_initx (fun vs H Q Er ⟨a, ys, e, l, _⟩ => by rw [e]; simp [l]) fun cdv A outer s H vs Q Er hr h => ⟨(E.tOsB K "index" (tVar 0) (tVar 1)), PSs.nox (pss_one (E.ps_osB (pv 0) (pv 1))), by
    have l : vs.length = 2 := by
      obtain ⟨a, ys, e, l, _⟩ := h
      rw [e]
      simp [l]
    have e : L2.start N_BadStatex_initx vs = vs.map some := by
      unfold L2.start
      rw [l]
      exact List.append_nil _
    rw [e]
    exact ox1 h⟩

abbrev s_BadRunsx_initx : Stmt := inClass (top 11) 0
abbrev N_BadRunsx_initx : List Str := ["self", "runs"]
abbrev p_BadRunsx_initx : List Str := ["self", "runs"]
theorem sc_BadRunsx_initx : FnScope N_BadRunsx_initx p_BadRunsx_initx (defScope s_BadRunsx_initx) := ⟨rfl, rfl, rfl, by decide +kernel, rfl, by decide +kernel, by decide +kernel⟩
theorem o_BadRunsx_initx {P : Program} {w : World} {K : PySem.W.Frag} {mg : Str → Option Value} {base : Heap} {Cl f : Addr} {fd : FuncData} {dvs : List V} {kws : List (Str × V)} (Fd : FunD K "__init__" "BadRuns.__init__" (defArgs s_BadRunsx_initx) (defBody s_BadRunsx_initx) (defScope s_BadRunsx_initx) dvs kws f fd) : FnOk P w K mg base CX0 1 f fd p_BadRunsx_initx (spE K Cl ["runs"]) :=
  Fd.ok sc_BadRunsx_initx (fun vs H Q Er ⟨a, ys, e, l, _⟩ => by rw [e]; simp [l]) fun cdv A outer s H vs Q Er hr h => ⟨(E.tOsB K "runs" (tVar 0) (tVar 1)), PSs.nox (pss_one (E.ps_osB (pv 0) (pv 1))), by
    have l : vs.length = 2 := by
      obtain ⟨a, ys, e, l, _⟩ := h
      rw [e]
      simp [l]
    have e : L2.start N_BadRunsx_initx vs = vs.map some := by
      unfold L2.start
      rw [l]
      exact List.append_nil _
    rw [e]
    exact ox1 h⟩

abbrev s_BadTextx_initx : Stmt := inClass (top 12) 0
abbrev N_BadTextx_initx : List Str := ["self", "line"]
abbrev p_BadTextx_initx : List Str := ["self", "line"]
theorem sc_BadTextx_initx : FnScope N_BadTextx_initx p_BadTextx_initx (defScope s_BadTextx_initx) := ⟨rfl, rfl, rfl, by decide +kernel, rfl, by decide +kernel, by decide +kernel⟩
theorem o_BadTextx_initx {P : Program} {w : World} {K : PySem.W.Frag} {mg : Str → Option Value} {base : Heap} {Cl f : Addr} {fd : FuncData} {dvs : List V} {kws : List (Str × V)} (Fd : FunD K "__init__" "BadText.__init__" (defArgs s_BadTextx_initx) (defBody s_BadTextx_initx) (defScope s_BadTextx_initx) dvs kws f fd) : FnOk P w K mg base CX0 1 f fd p_BadTextx_initx (spE K Cl ["line"]) :=
  Fd.ok sc_BadTextx_initx (fun vs H Q Er ⟨a, ys, e, l, _⟩ => by rw [e]; simp [l]) fun cdv A outer s H vs Q Er hr h => ⟨(E.tOsB K "line" (tVar 0) (tVar 1)), PSs.nox (pss_one (E.ps_osB (pv 0) (pv 1))), by
    have l : vs.length = 2 := by
      obtain ⟨a, ys, e, l, _⟩ := h
      rw [e]
      simp [l]
    have e : L2.start N_BadTextx_initx vs = vs.map some := by
      unfold L2.start
      rw [l]
      exact List.append_nil _
    rw [e]
    exact ox1 h⟩

abbrev s_BadCommandx_initx : Stmt := inClass (top 13) 0
abbrev N_BadCommandx_initx : List Str := ["self", "command"]
abbrev p_BadCommandx_initx : List Str := ["self", "command"]
theorem sc_BadCommandx_initx : FnScope N_BadCommandx_initx p_BadCommandx_initx (defScope s_BadCommandx_initx) := ⟨rfl, rfl, rfl, by decide +kernel, rfl, by decide +kernel, by decide +kernel⟩
theorem o_BadCommandx_initx {P : Program} {w : World} {K : PySem.W.Frag} {mg : Str → Option Value} {base : Heap} {Cl f : Addr} {fd : FuncData} {dvs : List V} {kws : List (Str × V)} (Fd : FunD K "__init__" "BadCommand.__init__" (defArgs s_BadCommandx_initx) (defBody s_BadCommandx_initx) (defScope s_BadCommandx_initx) dvs kws f fd) : FnOk P w K mg base CX0 1 f fd p_BadCommandx_initx (spE K Cl ["command"]) :=
  Fd.ok sc_BadCommandx_initx (fun vs H Q Er ⟨a, ys, e, l, _⟩ => by rw [e]; simp [l]) fun cdv A outer s H vs Q Er hr h => ⟨(E.tOsB K "command" (tVar 0) (tVar 1)), PSs.nox (pss_one (E.ps_osB (pv 0) (pv 1))), by
    have l : vs.length = 2 := by
      obtain ⟨a, ys, e, l, _⟩ := h
      rw [e]
      simp [l]
    have e : L2.start N_BadCommandx_initx vs = vs.map some := by
      unfold L2.start
      rw [l]
      exact List.append_nil _
    rw [e]
    exact ox1 h⟩

abbrev s_NoStorex_initx : Stmt := inClass (top 14) 0
abbrev N_NoStorex_initx : List Str := ["self", "store"]
abbrev p_NoStorex_initx : List Str := ["self", "store"]
theorem sc_NoStorex_initx : FnScope N_NoStorex_initx p_NoStorex_initx (defScope s_NoStorex_initx) := ⟨rfl, rfl, rfl, by decide +kernel, rfl, by decide +kernel, by decide +kernel⟩
theorem o_NoStorex_initx {P : Program} {w : World} {K : PySem.W.Frag} {mg : Str → Option Value} {base : Heap} {Cl f : Addr} {fd : FuncData} {dvs : List V} {kws : List (Str × V)} (Fd : FunD K "__init__" "NoStore.__init__" (defArgs s_NoStorex_initx) (defBody s_NoStorex_initx) (defScope s_NoStorex_initx) dvs kws f fd) : FnOk P w K mg base CX0 1 f fd p_NoStorex_initx (spE K Cl ["store"]) :=
  Fd.ok sc_NoStorex_initx (fun vs H Q Er ⟨a, ys, e, l, _⟩ => by rw [e]; simp [l]) fun cdv A outer s H vs Q Er hr h => ⟨(E.tOsB K "store" (tVar 0) (tVar 1)), PSs.nox (pss_one (E.ps_osB (pv 0) (pv 1))), by
    have l : vs.length = 2 := by
      obtain ⟨a, ys, e, l, _⟩ := h
      rw [e]
      simp [l]
    have e : L2.start N_NoStorex_initx vs = vs.map some := by
      unfold L2.start
      rw [l]
      exact List.append_nil _
    rw [e]
    exact ox1 h⟩

abbrev s_NoPartx_initx : Stmt := inClass (top 15) 0
abbrev N_NoPartx_initx : List Str := ["self", "name"]
abbrev p_NoPartx_initx : List Str := ["self", "name"]
theorem sc_NoPartx_initx : FnScope N_NoPartx_initx p_NoPartx_initx (defScope s_NoPartx_initx) := ⟨rfl, rfl, rfl, by decide +kernel, rfl, by decide +kernel, by decide +kernel⟩
theorem o_NoPartx_initx {P : Program} {w : World} {K : PySem.W.Frag} {mg : Str → Option Value} {base : Heap} {Cl f : Addr} {fd : FuncData} {dvs : List V} {kws : List (Str × V)} (Fd : FunD K "__init__" "NoPart.__init__" (defArgs s_NoPartx_initx) (defBody s_NoPartx_initx) (defScope s_NoPartx_initx) dvs kws f fd) : FnOk P w K mg base CX0 1 f fd p_NoPartx_initx (spE K Cl ["name"]) :=
  Fd.ok sc_NoPartx_initx (fun vs H Q Er ⟨a, ys, e, l, _⟩ => by rw [e]; simp [l]) fun cdv A outer s H vs Q Er hr h => ⟨(E.tOsB K "name" (tVar 0) (tVar 1)), PSs.nox (pss_one (E.ps_osB (pv 0) (pv 1))), by
    have l : vs.length = 2 := by
      obtain ⟨a, ys, e, l, _⟩ := h
      rw [e]
      simp [l]
    have e : L2.start N_NoPartx_initx vs = vs.map some := by
      unfold L2.start
      rw [l]
      exact List.append_nil _
    rw [e]
    exact ox1 h⟩

abbrev s_NoHandlerx_initx : Stmt := inClass (top 16) 0
abbrev N_NoHandlerx_initx : List Str := ["self", "handler"]
abbrev p_NoHandlerx_initx : List Str := ["self", "handler"]
theorem sc_NoHandlerx_initx : FnScope N_NoHandlerx_initx p_NoHandlerx_initx (defScope s_NoHandlerx_initx) := ⟨rfl, rfl, rfl, by decide +kernel, rfl, by decide +kernel, by decide +kernel⟩
theorem o_NoHandlerx_initx {P : Program} {w : World} {K : PySem.W.Frag} {mg : Str → Option Value} {base : Heap} {Cl f : Addr} {fd : FuncData} {dvs : List V} {kws : List (Str × V)} (Fd : FunD K "__init__" "NoHandler.__init__" (defArgs s_NoHandlerx_initx) (defBody s_NoHandlerx_initx) (defScope s_NoHandlerx_initx) dvs kws f fd) : FnOk P w K mg base CX0 1 f fd p_NoHandlerx_initx (spE K Cl ["handler"]) :=
  Fd.ok sc_NoHandlerx_initx (fun vs H Q Er ⟨a, ys, e, l, _⟩ => by rw [e]; simp [l]) fun cdv A outer s H vs Q Er hr h => ⟨(E.tOsB K "handler" (tVar 0) (tVar 1)), PSs.nox (pss_one (E.ps_osB (pv 0) (pv 1))), by
    have l : vs.length = 2 := by
      obtain ⟨a, ys, e, l, _⟩ := h
      rw [e]
      simp [l]
    have e : L2.start N_NoHandlerx_initx vs = vs.map some := by
      unfold L2.start
      rw [l]
      exact List.append_nil _
    rw [e]
    exact ox1 h⟩

abbrev s_NoRowx_initx : Stmt := inClass (top 17) 0
abbrev N_NoRowx_initx : List Str := ["self", "row"]
abbrev p_NoRowx_initx : List Str := ["self", "row"]
theorem sc_NoRowx_initx : FnScope N_NoRowx_initx p_NoRowx_initx (defScope s_NoRowx_initx) := ⟨rfl, rfl, rfl, by decide +kernel, rfl, by decide +kernel, by decide +kernel⟩
theorem o_NoRowx_initx {P : Program} {w : World} {K : PySem.W.Frag} {mg : Str → Option Value} {base : Heap} {Cl f : Addr} {fd : FuncData} {dvs : List V} {kws : List (Str × V)} (Fd : FunD K "__init__" "NoRow.__init__" (defArgs s_NoRowx_initx) (defBody s_NoRowx_initx) (defScope s_NoRowx_initx) dvs kws f fd) : FnOk P w K mg base CX0 1 f fd p_NoRowx_initx (spE K Cl ["row"]) :=
  Fd.ok sc_NoRowx_initx (fun vs H Q Er ⟨a, ys, e, l, _⟩ => by rw [e]; simp [l]) fun cdv A outer s H vs Q Er hr h => ⟨(E.tOsB K "row" (tVar 0) (tVar 1)), PSs.nox (pss_one (E.ps_osB (pv 0) (pv 1))), by
    have l : vs.length = 2 := by
      obtain ⟨a, ys, e, l, _⟩ := h
      rw [e]
      simp [l]
    have e : L2.start N_NoRowx_initx vs = vs.map some := by
      unfold L2.start
      rw [l]
      exact List.append_nil _
    rw [e]
    exact ox1 h⟩

abbrev s_NotTherex_initx : Stmt := inClass (top 18) 0
abbrev N_NotTherex_initx : List Str := ["self", "person"]
abbrev p_NotTherex_initx : List Str := ["self", "person"]
theorem sc_NotTherex_initx : FnScope N_NotTherex_initx p_NotTherex_initx (defScope s_NotTherex_initx) := ⟨rfl, rfl, rfl, by decide +kernel, rfl, by decide +kernel, by decide +kernel⟩
theorem o_NotTherex_initx {P : Program} {w : World} {K : PySem.W.Frag} {mg : Str → Option Value} {base : Heap} {Cl f : Addr} {fd : FuncData} {dvs : List V} {kws : List (Str × V)} (Fd : FunD K "__init__" "NotThere.__init__" (defArgs s_NotTherex_initx) (defBody s_NotTherex_initx) (defScope s_NotTherex_initx) dvs kws f fd) : FnOk P w K mg base CX0 1 f fd p_NotTherex_initx (spE K Cl ["person"]) :=
  Fd.ok sc_NotTherex_initx (fun vs H Q Er ⟨a, ys, e, l, _⟩ => by rw [e]; simp [l]) fun cdv A outer s H vs Q Er hr h => ⟨(E.tOsB K "person" (tVar 0) (tVar 1)), PSs.nox (pss_one (E.ps_osB (pv 0) (pv 1))), by
    have l : vs.length = 2 := by
      obtain ⟨a, ys, e, l, _⟩ := h
      rw [e]
      simp [l]
    have e : L2.start N_NotTherex_initx vs = vs.map some := by
      unfold L2.start
      rw [l]
      exact List.append_nil _
    rw [e]
    exact ox1 h⟩

abbrev s_NotReachedx_initx : Stmt := inClass (top 19) 0
abbrev N_NotReachedx_initx : List Str := ["self", "state"]
abbrev p_NotReachedx_initx : List Str := ["self", "state"]
theorem sc_NotReachedx_initx : FnScope N_NotReachedx_initx p_NotReachedx_initx (defScope s_NotReachedx_initx) := ⟨rfl, rfl, rfl, by decide +kernel, rfl, by decide +kernel, by decide +kernel⟩
theorem o_NotReachedx_initx {P : Program} {w : World} {K : PySem.W.Frag} {mg : Str → Option Value} {base : Heap} {Cl f : Addr} {fd : FuncData} {dvs : List V} {kws : List (Str × V)} (Fd : FunD K "__init__" "NotReached.__init__" (defArgs s_NotReachedx_initx) (defBody s_NotReachedx_initx) (defScope s_NotReachedx_initx) dvs kws f fd) : FnOk P w K mg base CX0 1 f fd p_NotReachedx_initx (spE K Cl ["state"]) :=
  Fd.ok sc_NotReachedx_initx (fun vs H Q Er ⟨a, ys, e, l, _⟩ => by rw [e]; simp [l]) fun cdv A outer s H vs Q Er hr h => ⟨(E.tOsB K "state" (tVar 0) (tVar 1)), PSs.nox (pss_one (E.ps_osB (pv 0) (pv 1))), by
    have l : vs.length = 2 := by
      obtain ⟨a, ys, e, l, _⟩ := h
      rw [e]
      simp [l]
    have e : L2.start N_NotReachedx_initx vs = vs.map some := by
      unfold L2.start
      rw [l]
      exact List.append_nil _
    rw [e]
    exact ox1 h⟩

abbrev s_TooManyx_initx : Stmt := inClass (top 20) 0
abbrev N_TooManyx_initx : List Str := ["self", "limit"]
abbrev p_TooManyx_initx : List Str := ["self", "limit"]
theorem sc_TooManyx_initx : FnScope N_TooManyx_initx p_TooManyx_initx (defScope s_TooManyx_initx) := ⟨rfl, rfl, rfl, by decide +kernel, rfl, by decide +kernel, by decide +kernel⟩
theorem o_TooManyx_initx {P : Program} {w : World} {K : PySem.W.Frag} {mg : Str → Option Value} {base : Heap} {Cl f : Addr} {fd : FuncData} {dvs : List V} {kws : List (Str × V)} (Fd : FunD K "__init__" "TooMany.__init__" (defArgs s_TooManyx_initx) (defBody s_TooManyx_initx) (defScope s_TooManyx_initx) dvs kws f fd) : FnOk P w K mg base CX0 1 f fd p_TooManyx_initx (spE K Cl ["limit"]) :=
  Fd.ok sc_TooManyx_initx (fun vs H Q Er ⟨a, ys, e, l, _⟩ => by rw [e]; simp [l]) fun cdv A outer s H vs Q Er hr h => ⟨(E.tOsB K "limit" (tVar 0) (tVar 1)), PSs.nox (pss_one (E.ps_osB (pv 0) (pv 1))), by
    have l : vs.length = 2 := by
      obtain ⟨a, ys, e, l, _⟩ := h
      rw [e]
      simp [l]
    have e : L2.start N_TooManyx_initx vs = vs.map some := by
      unfold L2.start
      rw [l]
      exact List.append_nil _
    rw [e]
    exact ox1 h⟩

abbrev s_NotAllowedx_initx : Stmt := inClass (top 21) 0
abbrev N_NotAllowedx_initx : List Str := ["self", "store", "action"]
abbrev p_NotAllowedx_initx : List Str := ["self", "store", "action"]
theorem sc_NotAllowedx_initx : FnScope N_NotAllowedx_initx p_NotAllowedx_initx (defScope s_NotAllowedx_initx) := ⟨rfl, rfl, rfl, by decide +kernel, rfl, by decide +kernel, by decide +kernel⟩
theorem o_NotAllowedx_initx {P : Program} {w : World} {K : PySem.W.Frag} {mg : Str → Option Value} {base : Heap} {Cl f : Addr} {fd : FuncData} {dvs : List V} {kws : List (Str × V)} (Fd : FunD K "__init__" "NotAllowed.__init__" (defArgs s_NotAllowedx_initx) (defBody s_NotAllowedx_initx) (defScope s_NotAllowedx_initx) dvs kws f fd) : FnOk P w K mg base CX0 1 f fd p_NotAllowedx_initx (spE K Cl ["store", "action"]) :=
  Fd.ok sc_NotAllowedx_initx (fun vs H Q Er ⟨a, ys, e, l, _⟩ => by rw [e]; simp [l]) fun cdv A outer s H vs Q Er hr h => ⟨(tSeq (E.tOsB K "store" (tVar 0) (tVar 1)) (E.tOsB K "action" (tVar 0) (tVar 2))), PSs.nox (pss_cons (E.ps_osB (pv 0) (pv 1)) (pss_one (E.ps_osB (pv 0) (pv 2)))), by
    have l : vs.length = 3 := by
      obtain ⟨a, ys, e, l, _⟩ := h
      rw [e]
      simp [l]
    have e : L2.start N_NotAllowedx_initx vs = vs.map some := by
      unfold L2.start
      rw [l]
      exact List.append_nil _
    rw [e]
    exact ox2 h⟩

abbrev s_Refusedx_initx : Stmt := inClass (top 22) 0
abbrev N_Refusedx_initx : List Str := ["self", "handler", "index"]
abbrev p_Refusedx_initx : List Str := ["self", "handler", "index"]
theorem sc_Refusedx_initx : FnScope N_Refusedx_initx p_Refusedx_initx (defScope s_Refusedx_initx) := ⟨rfl, rfl, rfl, by decide +kernel, rfl, by decide +kernel, by decide +kernel⟩
theorem o_Refusedx_initx {P : Program} {w : World} {K : PySem.W.Frag} {mg : Str → Option Value} {base : Heap} {Cl f : Addr} {fd : FuncData} {dvs : List V} {kws : List (Str × V)} (Fd : FunD K "__init__" "Refused.__init__" (defArgs s_Refusedx_initx) (defBody s_Refusedx_initx) (defScope s_Refusedx_initx) dvs kws f fd) : FnOk P w K mg base CX0 1 f fd p_Refusedx_initx (spE K Cl ["handler", "index"]) :=
  Fd.ok sc_Refusedx_initx (fun vs H Q Er ⟨a, ys, e, l, _⟩ => by rw [e]; simp [l]) fun cdv A outer s H vs Q Er hr h => ⟨(tSeq (E.tOsB K "handler" (tVar 0) (tVar 1)) (E.tOsB K "index" (tVar 0) (tVar 2))), PSs.nox (pss_cons (E.ps_osB (pv 0) (pv 1)) (pss_one (E.ps_osB (pv 0) (pv 2)))), by
    have l : vs.length = 3 := by
      obtain ⟨a, ys, e, l, _⟩ := h
      rw [e]
      simp [l]
    have e : L2.start N_Refusedx_initx vs = vs.map some := by
      unfold L2.start
      rw [l]
      exact List.append_nil _
    rw [e]
    exact ox2 h⟩

abbrev s_Erasedx_initx : Stmt := inClass (top 23) 0
abbrev N_Erasedx_initx : List Str := ["self", "person"]
abbrev p_Erasedx_initx : List Str := ["self", "person"]
theorem sc_Erasedx_initx : FnScope N_Erasedx_initx p_Erasedx_initx (defScope s_Erasedx_initx) := ⟨rfl, rfl, rfl, by decide +kernel, rfl, by decide +kernel, by decide +kernel⟩
theorem o_Erasedx_initx {P : Program} {w : World} {K : PySem.W.Frag} {mg : Str → Option Value} {base : Heap} {Cl f : Addr} {fd : FuncData} {dvs : List V} {kws : List (Str × V)} (Fd : FunD K "__init__" "Erased.__init__" (defArgs s_Erasedx_initx) (defBody s_Erasedx_initx) (defScope s_Erasedx_initx) dvs kws f fd) : FnOk P w K mg base CX0 1 f fd p_Erasedx_initx (spE K Cl ["person"]) :=
  Fd.ok sc_Erasedx_initx (fun vs H Q Er ⟨a, ys, e, l, _⟩ => by rw [e]; simp [l]) fun cdv A outer s H vs Q Er hr h => ⟨(E.tOsB K "person" (tVar 0) (tVar 1)), PSs.nox (pss_one (E.ps_osB (pv 0) (pv 1))), by
    have l : vs.length = 2 := by
      obtain ⟨a, ys, e, l, _⟩ := h
      rw [e]
      simp [l]
    have e : L2.start N_Erasedx_initx vs = vs.map some := by
      unfold L2.start
      rw [l]
      exact List.append_nil _
    rw [e]
    exact ox1 h⟩

abbrev s_law_bag : Stmt := top 25
abbrev N_law_bag : List Str := ["_law_script", "_law_at", "_law_cell", "_law_digits"]
abbrev p_law_bag : List Str := ["_law_script", "_law_at"]
theorem sc_law_bag : FnScope N_law_bag p_law_bag (defScope s_law_bag) := ⟨rfl, rfl, rfl, by decide +kernel, rfl, by decide +kernel, by decide +kernel⟩
def b_law_bag_2 : XS :=
 (sRet (xLstC (aCons (xVar 3) (aCons (x2 dAdd (x2 dAdd (x2 dMul (x2 dMod (xN dInt (aCons (xVar 2) aNil)) (xC (.int 2305843009213693951))) (xC (.int 7))) (x2 dMul (xC (.int 104729)) (xVar 1))) (xC (.int 5387))) (aCons (xC (.int 0)) aNil)))))
def b_law_bag_1 : XS :=
 (sSeq (sSet 3 (xIf (bV (x2 dGe (xN dAbs (aCons (xVar 2) aNil)) (x2 dPow (xC (.int 10)) (xC (.int 18))))) (xN dAbs (aCons (xVar 2) aNil)) (xC (.int 0))))
 b_law_bag_2)
def b_law_bag : XS :=
 (sSeq (sSet 2 (xIf (bV (x2 dLt (xVar 1) (xN dLen (aCons (xVar 0) aNil)))) (x2 dIx (xVar 0) (xVar 1)) (xC (.int 0))))
 b_law_bag_1)
theorem j_law_bag {P : Program} {w : World} {K : PySem.W.Frag} {mg : Str → Option Value} {base : Heap} (T : Fx K mg freeN gloN ntsN xtsN) (TB : TbOk ⟨P, w, K, mg⟩ tb) (TE : TeOk ⟨P, w, K, mg⟩ te) {f : Addr} (cdv : Value) (A : Around) (outer : List Env) (s : Shared) (H : Hp) (Er : XK) (hr : RmG 0 (A.deeper (envOfC "_law_bag" (defScope s_law_bag) s.heap.objs.size f cdv))) :
    JSs (cxOf (L2N.CX P w) P w K mg base N_law_bag "_law_bag" (defScope s_law_bag) f cdv A outer s H Er) {} (defBody s_law_bag) b_law_bag := by
  unfold b_law_bag b_law_bag_1 b_law_bag_2
  exact (jss_cons (js_set (i := 2) (fun h => ps_set (i := 2) sc_law_bag.nd rfl (Or.inl rfl) h) (je_if (jt_2 (fun a b => pt_cmpR od_lt a b (nomark _)) (je_var (pv 1)) (je_N (fun h => pe_callB cd_len rfl (T.fr 1 rfl) (by decide +kernel) h) (ja_cons (je_var (pv 0)) ja_nil))) (je_2 (fun a b => pe_ix xd_ix a b (fun _ _ => rfl)) (je_var (pv 0)) (je_var (pv 1))) je_int))
 (jss_cons (js_set (i := 3) (fun h => ps_set (i := 3) sc_law_bag.nd rfl (Or.inl rfl) h) (je_if (jt_2 (fun a b => pt_cmpR od_ge a b (nomark _)) (je_N (fun h => pe_callB cd_abs rfl (T.fr 2 rfl) (by decide +kernel) h) (ja_cons (je_var (pv 2)) ja_nil)) (je_2 (fun a b => pe_op od_pow a b) je_int je_int)) (je_N (fun h => pe_callB cd_abs rfl (T.fr 2 rfl) (by decide +kernel) h) (ja_cons (je_var (pv 2)) ja_nil)) je_int))
 (jss_one (js_ret (je_lstC (jl_cons (je_var (pv 3)) (jl_cons (je_2 (fun a b => pe_op od_add a b) (je_2 (fun a b => pe_op od_add a b) (je_2 (fun a b => pe_op od_mul a b) (je_2 (fun a b => pe_op od_mod a b) (je_N (fun h => pe_callTy cd_int rfl (T.fr 0 rfl) (by decide +kernel) h) (ja_cons (je_var (pv 2)) ja_nil)) je_int) je_int) (je_2 (fun a b => pe_op od_mul a b) je_int (je_var (pv 1)))) je_int) (jl_cons je_int jl_nil))))))))
def F_law_bag : List D → List D → EM D := fun ds es => match (arrP p_law_bag.length 0 []) ds es with
  | some bs => fnB N_law_bag.length b_law_bag bs
  | none => no

abbrev s_law_draw : Stmt := top 26
abbrev N_law_draw : List Str := ["_law_bag_here", "_law_many", "_law_digit", "_law_mixed"]
abbrev p_law_draw : List Str := ["_law_bag_here", "_law_many"]
theorem sc_law_draw : FnScope N_law_draw p_law_draw (defScope s_law_draw) := ⟨rfl, rfl, rfl, by decide +kernel, rfl, by decide +kernel, by decide +kernel⟩
def b_law_draw_4 : XS :=
 (sRet (x2 dMod (xN dInt (aCons (x2 dDiv (xVar 3) (xC (.int 4096))) aNil)) (xVar 1)))
def b_law_draw_3 : XS :=
 (sSeq (sSet 3 (x2 dMod (xN dInt (aCons (x2 dPow (x2 dAdd (xVar 3) (x2 dMul (xC (.int 15485867)) (x2 dIx (xVar 0) (xC (.int 2))))) (xC (.int 2))) aNil)) (xC (.int 2305843009213693951))))
 b_law_draw_4)
def b_law_draw_2 : XS :=
 (sSeq (sSet 3 (x2 dMod (xN dInt (aCons (x2 dPow (x2 dAdd (x2 dIx (xVar 0) (xC (.int 1))) (x2 dMul (xC (.int 1299721)) (x2 dIx (xVar 0) (xC (.int 2))))) (xC (.int 3))) aNil)) (xC (.int 2305843009213693921))))
 b_law_draw_3)
def b_law_draw_1 : XS :=
 (sSeq (sSetI (x2 dAdd (x2 dIx (xVar 0) (xC (.int 2))) (xC (.int 1))) (xVar 0) (xC (.int 2)))
 b_law_draw_2)
def b_law_draw : XS :=
 (sSeq (sIf (bV (x2 dGt (x2 dIx (xVar 0) (xC (.int 0))) (xC (.int 0)))) (sSeq (sSet 2 (x2 dMod (xN dInt (aCons (x2 dIx (xVar 0) (xC (.int 0))) aNil)) (xVar 1)))
 (sSeq (sSetI (x2 dDiv (x2 dIx (xVar 0) (xC (.int 0))) (xVar 1)) (xVar 0) (xC (.int 0)))
 (sRet (xVar 2)))) sNx)
 b_law_draw_1)
theorem j_law_draw {P : Program} {w : World} {K : PySem.W.Frag} {mg : Str → Option Value} {base : Heap} (T : Fx K mg freeN gloN ntsN xtsN) (TB : TbOk ⟨P, w, K, mg⟩ tb) (TE : TeOk ⟨P, w, K, mg⟩ te) {f : Addr} (cdv : Value) (A : Around) (outer : List Env) (s : Shared) (H : Hp) (Er : XK) (hr : RmG 0 (A.deeper (envOfC "_law_draw" (defScope s_law_draw) s.heap.objs.size f cdv))) :
    JSs (cxOf (L2N.CX P w) P w K mg base N_law_draw "_law_draw" (defScope s_law_draw) f cdv A outer s H Er) {} (defBody s_law_draw) b_law_draw := by
  unfold b_law_draw b_law_draw_1 b_law_draw_2 b_law_draw_3 b_law_draw_4
  exact (jss_cons (js_if (jt_2 (fun a b => pt_cmpR od_gt a b (nomark _)) (je_2 (fun a b => pe_ix xd_ix a b (fun _ _ => rfl)) (je_var (pv 0)) je_int) je_int) (jss_cons (js_set (i := 2) (fun h => ps_set (i := 2) sc_law_draw.nd rfl (Or.inl rfl) h) (je_2 (fun a b => pe_op od_mod a b) (je_N (fun h => pe_callTy cd_int rfl (T.fr 0 rfl) (by decide +kernel) h) (ja_cons (je_2 (fun a b => pe_ix xd_ix a b (fun _ _ => rfl)) (je_var (pv 0)) je_int) ja_nil)) (je_var (pv 1))))
 (jss_cons (js_setI (je_var (pv 0)) je_int (je_2 (fun a b => pe_op od_div a b) (je_2 (fun a b => pe_ix xd_ix a b (fun _ _ => rfl)) (je_var (pv 0)) je_int) (je_var (pv 1))))
 (jss_one (js_ret (je_var (pv 2)))))) jss_nil)
 (jss_cons (js_setI (je_var (pv 0)) je_int (je_2 (fun a b => pe_op od_add a b) (je_2 (fun a b => pe_ix xd_ix a b (fun _ _ => rfl)) (je_var (pv 0)) je_int) je_int))
 (jss_cons (js_set (i := 3) (fun h => ps_set (i := 3) sc_law_draw.nd rfl (Or.inl rfl) h) (je_2 (fun a b => pe_op od_mod a b) (je_N (fun h => pe_callTy cd_int rfl (T.fr 0 rfl) (by decide +kernel) h) (ja_cons (je_2 (fun a b => pe_op od_pow a b) (je_2 (fun a b => pe_op od_add a b) (je_2 (fun a b => pe_ix xd_ix a b (fun _ _ => rfl)) (je_var (pv 0)) je_int) (je_2 (fun a b => pe_op od_mul a b) je_int (je_2 (fun a b => pe_ix xd_ix a b (fun _ _ => rfl)) (je_var (pv 0)) je_int))) je_int) ja_nil)) je_int))
 (jss_cons (js_set (i := 3) (fun h => ps_set (i := 3) sc_law_draw.nd rfl (Or.inl rfl) h) (je_2 (fun a b => pe_op od_mod a b) (je_N (fun h => pe_callTy cd_int rfl (T.fr 0 rfl) (by decide +kernel) h) (ja_cons (je_2 (fun a b => pe_op od_pow a b) (je_2 (fun a b => pe_op od_add a b) (je_var (pv 3)) (je_2 (fun a b => pe_op od_mul a b) je_int (je_2 (fun a b => pe_ix xd_ix a b (fun _ _ => rfl)) (je_var (pv 0)) je_int))) je_int) ja_nil)) je_int))
 (jss_one (js_ret (je_2 (fun a b => pe_op od_mod a b) (je_N (fun h => pe_callTy cd_int rfl (T.fr 0 rfl) (by decide +kernel) h) (ja_cons (je_2 (fun a b => pe_op od_div a b) (je_var (pv 3)) je_int) ja_nil)) (je_var (pv 1)))))))))
def F_law_draw : List D → List D → EM D := fun ds es => match (arrP p_law_draw.length 0 []) ds es with
  | some bs => fnB N_law_draw.length b_law_draw bs
  | none => no

abbrev s_law_of : Stmt := top 27
abbrev N_law_of : List Str := ["_law_bag_here", "_law_some"]
abbrev p_law_of : List Str := ["_law_bag_here", "_law_some"]
theorem sc_law_of : FnScope N_law_of p_law_of (defScope s_law_of) := ⟨rfl, rfl, rfl, by decide +kernel, rfl, by decide +kernel, by decide +kernel⟩
def b_law_of : XS :=
 (sRet (x2 dIx (xVar 1) (xCall (kChk ([] : List Str).length F_law_draw) (aCons (xVar 0) (aCons (xN dLen (aCons (xVar 1) aNil)) aNil)) aNil)))
theorem j_law_of {P : Program} {w : World} {K : PySem.W.Frag} {mg : Str → Option Value} {base : Heap} (T : Fx K mg freeN gloN ntsN xtsN) (TB : TbOk ⟨P, w, K, mg⟩ tb) (TE : TeOk ⟨P, w, K, mg⟩ te) (c_law_draw : CalG P w K mg base 1 "_law_draw" [] F_law_draw) {f : Addr} (cdv : Value) (A : Around) (outer : List Env) (s : Shared) (H : Hp) (Er : XK) (hr : RmG 1 (A.deeper (envOfC "_law_of" (defScope s_law_of) s.heap.objs.size f cdv))) :
    JSs (cxOf (L2N.CX P w) P w K mg base N_law_of "_law_of" (defScope s_law_of) f cdv A outer s H Er) {} (defBody s_law_of) b_law_of := by
  unfold b_law_of
  exact (jss_one (js_ret (je_2 (fun a b => pe_ix xd_ix a b (fun _ _ => rfl)) (je_var (pv 1)) (je_call c_law_draw hr (by decide) rfl (ja_cons (je_var (pv 0)) (ja_cons (je_N (fun h => pe_callB cd_len rfl (T.fr 1 rfl) (by decide +kernel) h) (ja_cons (je_var (pv 1)) ja_nil)) ja_nil)) jk_nil))))
def F_law_of : List D → List D → EM D := fun ds es => match (arrP p_law_of.length 0 []) ds es with
  | some bs => fnB N_law_of.length b_law_of bs
  | none => no

abbrev s_law_raised : Stmt := top 28
abbrev N_law_raised : List Str := ["_law_k", "_law_one", "_law_two"]
abbrev p_law_raised : List Str := ["_law_k", "_law_one", "_law_two"]
theorem sc_law_raised : FnScope N_law_raised p_law_raised (defScope s_law_raised) := ⟨rfl, rfl, rfl, by decide +kernel, rfl, by decide +kernel, by decide +kernel⟩
def b_law_raised_12 : XS :=
 (sRaise "BadCommand" ["command"] (aCons (xVar 1) aNil))
def b_law_raised_11 : XS :=
 (sSeq (sIf (bV (x2 dEq (xVar 0) (xC (.int 11)))) (sRaise "BadText" ["line"] (aCons (xVar 2) aNil)) sNx)
 b_law_raised_12)
def b_law_raised_10 : XS :=
 (sSeq (sIf (bV (x2 dEq (xVar 0) (xC (.int 10)))) (sRaise "BadRuns" ["runs"] (aCons (xVar 2) aNil)) sNx)
 b_law_raised_11)
def b_law_raised_9 : XS :=
 (sSeq (sIf (bV (x2 dEq (xVar 0) (xC (.int 9)))) (sRaise "BadState" ["index"] (aCons (xVar 2) aNil)) sNx)
 b_law_raised_10)
def b_law_raised_8 : XS :=
 (sSeq (sIf (bV (x2 dEq (xVar 0) (xC (.int 8)))) (sRaise "BadPattern" ["pattern"] (aCons (xVar 1) aNil)) sNx)
 b_law_raised_9)
def b_law_raised_7 : XS :=
 (sSeq (sIf (bV (x2 dEq (xVar 0) (xC (.int 7)))) (sRaise "BadPeople" ["many"] (aCons (xVar 2) aNil)) sNx)
 b_law_raised_8)
def b_law_raised_6 : XS :=
 (sSeq (sIf (bV (x2 dEq (xVar 0) (xC (.int 6)))) (sRaise "BadEvent" ["event"] (aCons (xVar 1) aNil)) sNx)
 b_law_raised_7)
def b_law_raised_5 : XS :=
 (sSeq (sIf (bV (x2 dEq (xVar 0) (xC (.int 5)))) (sRaise "BadLine" ["index"] (aCons (xVar 2) aNil)) sNx)
 b_law_raised_6)
def b_law_raised_4 : XS :=
 (sSeq (sIf (bV (x2 dEq (xVar 0) (xC (.int 4)))) (sRaise "BadErasing" ["index"] (aCons (xVar 2) aNil)) sNx)
 b_law_raised_5)
def b_law_raised_3 : XS :=
 (sSeq (sIf (bV (x2 dEq (xVar 0) (xC (.int 3)))) (sRaise "BadStep" ["handler", "index"] (aCons (xVar 1) (aCons (xVar 2) aNil))) sNx)
 b_law_raised_4)
def b_law_raised_2 : XS :=
 (sSeq (sIf (bV (x2 dEq (xVar 0) (xC (.int 2)))) (sRaise "BadValue" ["value"] (aCons (xVar 1) aNil)) sNx)
 b_law_raised_3)
def b_law_raised_1 : XS :=
 (sSeq (sIf (bV (x2 dEq (xVar 0) (xC (.int 1)))) (sRaise "Twice" ["name"] (aCons (xVar 1) aNil)) sNx)
 b_law_raised_2)
def b_law_raised : XS :=
 (sSeq (sIf (bV (x2 dEq (xVar 0) (xC (.int 0)))) (sRaise "BadName" ["name"] (aCons (xVar 1) aNil)) sNx)
 b_law_raised_1)
theorem j_law_raised {P : Program} {w : World} {K : PySem.W.Frag} {mg : Str → Option Value} {base : Heap} (T : Fx K mg freeN gloN ntsN xtsN) (TB : TbOk ⟨P, w, K, mg⟩ tb) (TE : TeOk ⟨P, w, K, mg⟩ te) (x_BadName : ExrG P w K mg base 1 "BadName" ["name"]) (x_Twice : ExrG P w K mg base 1 "Twice" ["name"]) (x_BadValue : ExrG P w K mg base 1 "BadValue" ["value"]) (x_BadStep : ExrG P w K mg base 1 "BadStep" ["handler", "index"]) (x_BadErasing : ExrG P w K mg base 1 "BadErasing" ["index"]) (x_BadLine : ExrG P w K mg base 1 "BadLine" ["index"]) (x_BadEvent : ExrG P w K mg base 1 "BadEvent" ["event"]) (x_BadPeople : ExrG P w K mg base 1 "BadPeople" ["many"]) (x_BadPattern : ExrG P w K mg base 1 "BadPattern" ["pattern"]) (x_BadState : ExrG P w K mg base 1 "BadState" ["index"]) (x_BadRuns : ExrG P w K mg base 1 "BadRuns" ["runs"]) (x_BadText : ExrG P w K mg base 1 "BadText" ["line"]) (x_BadCommand : ExrG P w K mg base 1 "BadCommand" ["command"]) {f : Addr} (cdv : Value) (A : Around) (outer : List Env) (s : Shared) (H : Hp) (Er : XK) (hr : RmG 2 (A.deeper (envOfC "_law_raised" (defScope s_law_raised) s.heap.objs.size f cdv))) :
    JSs (cxOf (L2N.CX P w) P w K mg base N_law_raised "_law_raised" (defScope s_law_raised) f cdv A outer s H Er) {} (defBody s_law_raised) b_law_raised := by
  unfold b_law_raised b_law_raised_1 b_law_raised_2 b_law_raised_3 b_law_raised_4 b_law_raised_5 b_law_raised_6 b_law_raised_7 b_law_raised_8 b_law_raised_9 b_law_raised_10 b_law_raised_11 b_law_raised_12
  exact (jss_cons (js_if (jt_2 (fun a b => pt_cmpR (od_eq hr.room.units) a b (nomark _)) (je_var (pv 0)) je_int) (jss_one (js_raise x_BadName hr (by decide) rfl rfl (ja_cons (je_var (pv 1)) ja_nil))) jss_nil)
 (jss_cons (js_if (jt_2 (fun a b => pt_cmpR (od_eq hr.room.units) a b (nomark _)) (je_var (pv 0)) je_int) (jss_one (js_raise x_Twice hr (by decide) rfl rfl (ja_cons (je_var (pv 1)) ja_nil))) jss_nil)
 (jss_cons (js_if (jt_2 (fun a b => pt_cmpR (od_eq hr.room.units) a b (nomark _)) (je_var (pv 0)) je_int) (jss_one (js_raise x_BadValue hr (by decide) rfl rfl (ja_cons (je_var (pv 1)) ja_nil))) jss_nil)
 (jss_cons (js_if (jt_2 (fun a b => pt_cmpR (od_eq hr.room.units) a b (nomark _)) (je_var (pv 0)) je_int) (jss_one (js_raise x_BadStep hr (by decide) rfl rfl (ja_cons (je_var (pv 1)) (ja_cons (je_var (pv 2)) ja_nil)))) jss_nil)
 (jss_cons (js_if (jt_2 (fun a b => pt_cmpR (od_eq hr.room.units) a b (nomark _)) (je_var (pv 0)) je_int) (jss_one (js_raise x_BadErasing hr (by decide) rfl rfl (ja_cons (je_var (pv 2)) ja_nil))) jss_nil)
 (jss_cons (js_if (jt_2 (fun a b => pt_cmpR (od_eq hr.room.units) a b (nomark _)) (je_var (pv 0)) je_int) (jss_one (js_raise x_BadLine hr (by decide) rfl rfl (ja_cons (je_var (pv 2)) ja_nil))) jss_nil)
 (jss_cons (js_if (jt_2 (fun a b => pt_cmpR (od_eq hr.room.units) a b (nomark _)) (je_var (pv 0)) je_int) (jss_one (js_raise x_BadEvent hr (by decide) rfl rfl (ja_cons (je_var (pv 1)) ja_nil))) jss_nil)
 (jss_cons (js_if (jt_2 (fun a b => pt_cmpR (od_eq hr.room.units) a b (nomark _)) (je_var (pv 0)) je_int) (jss_one (js_raise x_BadPeople hr (by decide) rfl rfl (ja_cons (je_var (pv 2)) ja_nil))) jss_nil)
 (jss_cons (js_if (jt_2 (fun a b => pt_cmpR (od_eq hr.room.units) a b (nomark _)) (je_var (pv 0)) je_int) (jss_one (js_raise x_BadPattern hr (by decide) rfl rfl (ja_cons (je_var (pv 1)) ja_nil))) jss_nil)
 (jss_cons (js_if (jt_2 (fun a b => pt_cmpR (od_eq hr.room.units) a b (nomark _)) (je_var (pv 0)) je_int) (jss_one (js_raise x_BadState hr (by decide) rfl rfl (ja_cons (je_var (pv 2)) ja_nil))) jss_nil)
 (jss_cons (js_if (jt_2 (fun a b => pt_cmpR (od_eq hr.room.units) a b (nomark _)) (je_var (pv 0)) je_int) (jss_one (js_raise x_BadRuns hr (by decide) rfl rfl (ja_cons (je_var (pv 2)) ja_nil))) jss_nil)
 (jss_cons (js_if (jt_2 (fun a b => pt_cmpR (od_eq hr.room.units) a b (nomark _)) (je_var (pv 0)) je_int) (jss_one (js_raise x_BadText hr (by decide) rfl rfl (ja_cons (je_var (pv 2)) ja_nil))) jss_nil)
 (jss_one (js_raise x_BadCommand hr (by decide) rfl rfl (ja_cons (je_var (pv 1)) ja_nil)))))))))))))))
def F_law_raised : List D → List D → EM D := fun ds es => match (arrP p_law_raised.length 0 []) ds es with
  | some bs => fnB N_law_raised.length b_law_raised bs
  | none => no

abbrev s_law_raised_later : Stmt := top 29
abbrev N_law_raised_later : List Str := ["_law_k", "_law_one", "_law_two"]
abbrev p_law_raised_later : List Str := ["_law_k", "_law_one", "_law_two"]
theorem sc_law_raised_later : FnScope N_law_raised_later p_law_raised_later (defScope s_law_raised_later) := ⟨rfl, rfl, rfl, by decide +kernel, rfl, by decide +kernel, by decide +kernel⟩
def b_law_raised_later_9 : XS :=
 (sRaise "Erased" ["person"] (aCons (xVar 1) aNil))
def b_law_raised_later_8 : XS :=
 (sSeq (sIf (bV (x2 dEq (xVar 0) (xC (.int 21)))) (sRaise "Refused" ["handler", "index"] (aCons (xVar 1) (aCons (xVar 2) aNil))) sNx)
 b_law_raised_later_9)
def b_law_raised_later_7 : XS :=
 (sSeq (sIf (bV (x2 dEq (xVar 0) (xC (.int 20)))) (sRaise "NotAllowed" ["store", "action"] (aCons (xVar 1) (aCons (xVar 2) aNil))) sNx)
 b_law_raised_later_8)
def b_law_raised_later_6 : XS :=
 (sSeq (sIf (bV (x2 dEq (xVar 0) (xC (.int 19)))) (sRaise "TooMany" ["limit"] (aCons (xVar 2) aNil)) sNx)
 b_law_raised_later_7)
def b_law_raised_later_5 : XS :=
 (sSeq (sIf (bV (x2 dEq (xVar 0) (xC (.int 18)))) (sRaise "NotReached" ["state"] (aCons (xVar 1) aNil)) sNx)
 b_law_raised_later_6)
def b_law_raised_later_4 : XS :=
 (sSeq (sIf (bV (x2 dEq (xVar 0) (xC (.int 17)))) (sRaise "NotThere" ["person"] (aCons (xVar 1) aNil)) sNx)
 b_law_raised_later_5)
def b_law_raised_later_3 : XS :=
 (sSeq (sIf (bV (x2 dEq (xVar 0) (xC (.int 16)))) (sRaise "NoRow" ["row"] (aCons (xVar 2) aNil)) sNx)
 b_law_raised_later_4)
def b_law_raised_later_2 : XS :=
 (sSeq (sIf (bV (x2 dEq (xVar 0) (xC (.int 15)))) (sRaise "NoHandler" ["handler"] (aCons (xVar 1) aNil)) sNx)
 b_law_raised_later_3)
def b_law_raised_later_1 : XS :=
 (sSeq (sIf (bV (x2 dEq (xVar 0) (xC (.int 14)))) (sRaise "NoPart" ["name"] (aCons (xVar 1) aNil)) sNx)
 b_law_raised_later_2)
def b_law_raised_later : XS :=
 (sSeq (sIf (bV (x2 dEq (xVar 0) (xC (.int 13)))) (sRaise "NoStore" ["store"] (aCons (xVar 1) aNil)) sNx)
 b_law_raised_later_1)
theorem j_law_raised_later {P : Program} {w : World} {K : PySem.W.Frag} {mg : Str → Option Value} {base : Heap} (T : Fx K mg freeN gloN ntsN xtsN) (TB : TbOk ⟨P, w, K, mg⟩ tb) (TE : TeOk ⟨P, w, K, mg⟩ te) (x_NoStore : ExrG P w K mg base 1 "NoStore" ["store"]) (x_NoPart : ExrG P w K mg base 1 "NoPart" ["name"]) (x_NoHandler : ExrG P w K mg base 1 "NoHandler" ["handler"]) (x_NoRow : ExrG P w K mg base 1 "NoRow" ["row"]) (x_NotThere : ExrG P w K mg base 1 "NotThere" ["person"]) (x_NotReached : ExrG P w K mg base 1 "NotReached" ["state"]) (x_TooMany : ExrG P w K mg base 1 "TooMany" ["limit"]) (x_NotAllowed : ExrG P w K mg base 1 "NotAllowed" ["store", "action"]) (x_Refused : ExrG P w K mg base 1 "Refused" ["handler", "index"]) (x_Erased : ExrG P w K mg base 1 "Erased" ["person"]) {f : Addr} (cdv : Value) (A : Around) (outer : List Env) (s : Shared) (H : Hp) (Er : XK) (hr : RmG 2 (A.deeper (envOfC "_law_raised_later" (defScope s_law_raised_later) s.heap.objs.size f cdv))) :
    JSs (cxOf (L2N.CX P w) P w K mg base N_law_raised_later "_law_raised_later" (defScope s_law_raised_later) f cdv A outer s H Er) {} (defBody s_law_raised_later) b_law_raised_later := by
  unfold b_law_raised_later b_law_raised_later_1 b_law_raised_later_2 b_law_raised_later_3 b_law_raised_later_4 b_law_raised_later_5 b_law_raised_later_6 b_law_raised_later_7 b_law_raised_later_8 b_law_raised_later_9
  exact (jss_cons (js_if (jt_2 (fun a b => pt_cmpR (od_eq hr.room.units) a b (nomark _)) (je_var (pv 0)) je_int) (jss_one (js_raise x_NoStore hr (by decide) rfl rfl (ja_cons (je_var (pv 1)) ja_nil))) jss_nil)
 (jss_cons (js_if (jt_2 (fun a b => pt_cmpR (od_eq hr.room.units) a b (nomark _)) (je_var (pv 0)) je_int) (jss_one (js_raise x_NoPart hr (by decide) rfl rfl (ja_cons (je_var (pv 1)) ja_nil))) jss_nil)
 (jss_cons (js_if (jt_2 (fun a b => pt_cmpR (od_eq hr.room.units) a b (nomark _)) (je_var (pv 0)) je_int) (jss_one (js_raise x_NoHandler hr (by decide) rfl rfl (ja_cons (je_var (pv 1)) ja_nil))) jss_nil)
 (jss_cons (js_if (jt_2 (fun a b => pt_cmpR (od_eq hr.room.units) a b (nomark _)) (je_var (pv 0)) je_int) (jss_one (js_raise x_NoRow hr (by decide) rfl rfl (ja_cons (je_var (pv 2)) ja_nil))) jss_nil)
 (jss_cons (js_if (jt_2 (fun a b => pt_cmpR (od_eq hr.room.units) a b (nomark _)) (je_var (pv 0)) je_int) (jss_one (js_raise x_NotThere hr (by decide) rfl rfl (ja_cons (je_var (pv 1)) ja_nil))) jss_nil)
 (jss_cons (js_if (jt_2 (fun a b => pt_cmpR (od_eq hr.room.units) a b (nomark _)) (je_var (pv 0)) je_int) (jss_one (js_raise x_NotReached hr (by decide) rfl rfl (ja_cons (je_var (pv 1)) ja_nil))) jss_nil)
 (jss_cons (js_if (jt_2 (fun a b => pt_cmpR (od_eq hr.room.units) a b (nomark _)) (je_var (pv 0)) je_int) (jss_one (js_raise x_TooMany hr (by decide) rfl rfl (ja_cons (je_var (pv 2)) ja_nil))) jss_nil)
 (jss_cons (js_if (jt_2 (fun a b => pt_cmpR (od_eq hr.room.units) a b (nomark _)) (je_var (pv 0)) je_int) (jss_one (js_raise x_NotAllowed hr (by decide) rfl rfl (ja_cons (je_var (pv 1)) (ja_cons (je_var (pv 2)) ja_nil)))) jss_nil)
 (jss_cons (js_if (jt_2 (fun a b => pt_cmpR (od_eq hr.room.units) a b (nomark _)) (je_var (pv 0)) je_int) (jss_one (js_raise x_Refused hr (by decide) rfl rfl (ja_cons (je_var (pv 1)) (ja_cons (je_var (pv 2)) ja_nil)))) jss_nil)
 (jss_one (js_raise x_Erased hr (by decide) rfl rfl (ja_cons (je_var (pv 1)) ja_nil))))))))))))
def F_law_raised_later : List D → List D → EM D := fun ds es => match (arrP p_law_raised_later.length 0 []) ds es with
  | some bs => fnB N_law_raised_later.length b_law_raised_later bs
  | none => no

abbrev s_law_deed : Stmt := top 30
abbrev N_law_deed : List Str := ["_law_k", "_law_one", "_law_two"]
abbrev p_law_deed : List Str := ["_law_k", "_law_one", "_law_two"]
theorem sc_law_deed : FnScope N_law_deed p_law_deed (defScope s_law_deed) := ⟨rfl, rfl, rfl, by decide +kernel, rfl, by decide +kernel, by decide +kernel⟩
def b_law_deed : XS :=
 (sIf (bV (x2 dLt (xVar 0) (xC (.int 13)))) (sDrop (xCall (kChk ([] : List Str).length F_law_raised) (aCons (xVar 0) (aCons (xVar 1) (aCons (xVar 2) aNil))) aNil)) (sDrop (xCall (kChk ([] : List Str).length F_law_raised_later) (aCons (xVar 0) (aCons (xVar 1) (aCons (xVar 2) aNil))) aNil)))
theorem j_law_deed {P : Program} {w : World} {K : PySem.W.Frag} {mg : Str → Option Value} {base : Heap} (T : Fx K mg freeN gloN ntsN xtsN) (TB : TbOk ⟨P, w, K, mg⟩ tb) (TE : TeOk ⟨P, w, K, mg⟩ te) (c_law_raised : CalG P w K mg base 3 "_law_raised" [] F_law_raised) (c_law_raised_later : CalG P w K mg base 3 "_law_raised_later" [] F_law_raised_later) {f : Addr} (cdv : Value) (A : Around) (outer : List Env) (s : Shared) (H : Hp) (Er : XK) (hr : RmG 3 (A.deeper (envOfC "_law_deed" (defScope s_law_deed) s.heap.objs.size f cdv))) :
    JSs (cxOf (L2N.CX P w) P w K mg base N_law_deed "_law_deed" (defScope s_law_deed) f cdv A outer s H Er) {} (defBody s_law_deed) b_law_deed := by
  unfold b_law_deed
  exact (jss_one (js_if (jt_2 (fun a b => pt_cmpR od_lt a b (nomark _)) (je_var (pv 0)) je_int) (jss_one (js_drop (je_call c_law_raised hr (by decide) rfl (ja_cons (je_var (pv 0)) (ja_cons (je_var (pv 1)) (ja_cons (je_var (pv 2)) ja_nil))) jk_nil))) (jss_one (js_drop (je_call c_law_raised_later hr (by decide) rfl (ja_cons (je_var (pv 0)) (ja_cons (je_var (pv 1)) (ja_cons (je_var (pv 2)) ja_nil))) jk_nil)))))
def F_law_deed : List D → List D → EM D := fun ds es => match (arrP p_law_deed.length 0 []) ds es with
  | some bs => fnB N_law_deed.length b_law_deed bs
  | none => no

abbrev s_law_told : Stmt := top 31
abbrev N_law_told : List Str := ["_law_k", "_law_one", "_law_two", "e"]
abbrev p_law_told : List Str := ["_law_k", "_law_one", "_law_two"]
theorem sc_law_told : FnScope N_law_told p_law_told (defScope s_law_told) := ⟨rfl, rfl, rfl, by decide +kernel, rfl, by decide +kernel, by decide +kernel⟩
def b_law_told_1 : XS :=
 (sRet (xLst aNil))
def b_law_told : XS :=
 (sSeq (sTryT te (sDrop (xCall (kChk ([] : List Str).length F_law_deed) (aCons (xVar 0) (aCons (xVar 1) (aCons (xVar 2) aNil))) aNil)) (([.c "BadName", .c "Twice", .c "NoPart"], 3, (sRet (xLst (aCons (xXfA te 3 "name") aNil)))) :: (([.c "BadValue"], 3, (sRet (xLst (aCons (xXf te "BadValue" 3 "value") aNil)))) :: (([.c "BadStep", .c "Refused"], 3, (sRet (xLst (aCons (xXfA te 3 "handler") (aCons (xXfA te 3 "index") aNil))))) :: (([.c "BadErasing", .c "BadLine", .c "BadState"], 3, (sRet (xLst (aCons (xXfA te 3 "index") aNil)))) :: (([.c "BadEvent"], 3, (sRet (xLst (aCons (xXf te "BadEvent" 3 "event") aNil)))) :: (([.c "BadPeople"], 3, (sRet (xLst (aCons (xXf te "BadPeople" 3 "many") aNil)))) :: (([.c "BadPattern"], 3, (sRet (xLst (aCons (xXf te "BadPattern" 3 "pattern") aNil)))) :: (([.c "BadRuns"], 3, (sRet (xLst (aCons (xXf te "BadRuns" 3 "runs") aNil)))) :: (([.c "BadText"], 3, (sRet (xLst (aCons (xXf te "BadText" 3 "line") aNil)))) :: (([.c "BadCommand"], 3, (sRet (xLst (aCons (xXf te "BadCommand" 3 "command") aNil)))) :: (([.c "NoStore"], 3, (sRet (xLst (aCons (xXf te "NoStore" 3 "store") aNil)))) :: (([.c "NoHandler"], 3, (sRet (xLst (aCons (xXf te "NoHandler" 3 "handler") aNil)))) :: (([.c "NoRow"], 3, (sRet (xLst (aCons (xXf te "NoRow" 3 "row") aNil)))) :: (([.c "NotThere", .c "Erased"], 3, (sRet (xLst (aCons (xXfA te 3 "person") aNil)))) :: (([.c "NotReached"], 3, (sRet (xLst (aCons (xXf te "NotReached" 3 "state") aNil)))) :: (([.c "TooMany"], 3, (sRet (xLst (aCons (xXf te "TooMany" 3 "limit") aNil)))) :: (([.c "NotAllowed"], 3, (sRet (xLst (aCons (xXf te "NotAllowed" 3 "store") (aCons (xXf te "NotAllowed" 3 "action") aNil))))) :: []))))))))))))))))))
 b_law_told_1)
theorem j_law_told {P : Program} {w : World} {K : PySem.W.Frag} {mg : Str → Option Value} {base : Heap} (T : Fx K mg freeN gloN ntsN xtsN) (TB : TbOk ⟨P, w, K, mg⟩ tb) (TE : TeOk ⟨P, w, K, mg⟩ te) (c_law_deed : CalG P w K mg base 4 "_law_deed" [] F_law_deed) {f : Addr} (cdv : Value) (A : Around) (outer : List Env) (s : Shared) (H : Hp) (Er : XK) (hr : RmG 4 (A.deeper (envOfC "_law_told" (defScope s_law_told) s.heap.objs.size f cdv))) :
    JSs (cxOf (L2N.CX P w) P w K mg base N_law_told "_law_told" (defScope s_law_told) f cdv A outer s H Er) {} (defBody s_law_told) b_law_told := by
  unfold b_law_told b_law_told_1
  exact (jss_cons (js_tryT TE rfl rfl rfl sc_law_told.nd (fun pn xe po => (jss_one (js_drop (je_call c_law_deed hr (by decide) rfl (ja_cons (je_var (pv 0)) (ja_cons (je_var (pv 1)) (ja_cons (je_var (pv 2)) ja_nil))) jk_nil)))) (.cons (ts := [.c "BadName", .c "Twice", .c "NoPart"]) (tags_cons (T.gl 9 rfl) (tags_cons (T.gl 10 rfl) (tags_cons (T.gl 23 rfl) tags_nil))) (E.tst_tup (.cons ⟨rfl, by decide, .inl (T.gl 9 rfl)⟩ (.cons ⟨rfl, by decide, .inl (T.gl 10 rfl)⟩ (.cons ⟨rfl, by decide, .inl (T.gl 23 rfl)⟩ .nil))) (by simp)) (i := 3) rfl rfl (fun aa oe cls dd pn zz zf => (jss_one (js_ret (je_lst (jl_cons (je_xfA TE zz zf (pv 3)) jl_nil))))) (.cons (ts := [.c "BadValue"]) (tags_cons (T.gl 11 rfl) tags_nil) (tst_one ⟨rfl, by decide, .inl (T.gl 11 rfl)⟩) (i := 3) rfl rfl (fun aa oe cls dd pn zz zf => (jss_one (js_ret (je_lst (jl_cons (je_xf TE zz zf (T.gl 11 rfl) (by decide) (pv 3)) jl_nil))))) (.cons (ts := [.c "BadStep", .c "Refused"]) (tags_cons (T.gl 12 rfl) (tags_cons (T.gl 30 rfl) tags_nil)) (E.tst_tup (.cons ⟨rfl, by decide, .inl (T.gl 12 rfl)⟩ (.cons ⟨rfl, by decide, .inl (T.gl 30 rfl)⟩ .nil)) (by simp)) (i := 3) rfl rfl (fun aa oe cls dd pn zz zf => (jss_one (js_ret (je_lst (jl_cons (je_xfA TE zz zf (pv 3)) (jl_cons (je_xfA TE zz zf (pv 3)) jl_nil)))))) (.cons (ts := [.c "BadErasing", .c "BadLine", .c "BadState"]) (tags_cons (T.gl 13 rfl) (tags_cons (T.gl 14 rfl) (tags_cons (T.gl 18 rfl) tags_nil))) (E.tst_tup (.cons ⟨rfl, by decide, .inl (T.gl 13 rfl)⟩ (.cons ⟨rfl, by decide, .inl (T.gl 14 rfl)⟩ (.cons ⟨rfl, by decide, .inl (T.gl 18 rfl)⟩ .nil))) (by simp)) (i := 3) rfl rfl (fun aa oe cls dd pn zz zf => (jss_one (js_ret (je_lst (jl_cons (je_xfA TE zz zf (pv 3)) jl_nil))))) (.cons (ts := [.c "BadEvent"]) (tags_cons (T.gl 15 rfl) tags_nil) (tst_one ⟨rfl, by decide, .inl (T.gl 15 rfl)⟩) (i := 3) rfl rfl (fun aa oe cls dd pn zz zf => (jss_one (js_ret (je_lst (jl_cons (je_xf TE zz zf (T.gl 15 rfl) (by decide) (pv 3)) jl_nil))))) (.cons (ts := [.c "BadPeople"]) (tags_cons (T.gl 16 rfl) tags_nil) (tst_one ⟨rfl, by decide, .inl (T.gl 16 rfl)⟩) (i := 3) rfl rfl (fun aa oe cls dd pn zz zf => (jss_one (js_ret (je_lst (jl_cons (je_xf TE zz zf (T.gl 16 rfl) (by decide) (pv 3)) jl_nil))))) (.cons (ts := [.c "BadPattern"]) (tags_cons (T.gl 17 rfl) tags_nil) (tst_one ⟨rfl, by decide, .inl (T.gl 17 rfl)⟩) (i := 3) rfl rfl (fun aa oe cls dd pn zz zf => (jss_one (js_ret (je_lst (jl_cons (je_xf TE zz zf (T.gl 17 rfl) (by decide) (pv 3)) jl_nil))))) (.cons (ts := [.c "BadRuns"]) (tags_cons (T.gl 19 rfl) tags_nil) (tst_one ⟨rfl, by decide, .inl (T.gl 19 rfl)⟩) (i := 3) rfl rfl (fun aa oe cls dd pn zz zf => (jss_one (js_ret (je_lst (jl_cons (je_xf TE zz zf (T.gl 19 rfl) (by decide) (pv 3)) jl_nil))))) (.cons (ts := [.c "BadText"]) (tags_cons (T.gl 20 rfl) tags_nil) (tst_one ⟨rfl, by decide, .inl (T.gl 20 rfl)⟩) (i := 3) rfl rfl (fun aa oe cls dd pn zz zf => (jss_one (js_ret (je_lst (jl_cons (je_xf TE zz zf (T.gl 20 rfl) (by decide) (pv 3)) jl_nil))))) (.cons (ts := [.c "BadCommand"]) (tags_cons (T.gl 21 rfl) tags_nil) (tst_one ⟨rfl, by decide, .inl (T.gl 21 rfl)⟩) (i := 3) rfl rfl (fun aa oe cls dd pn zz zf => (jss_one (js_ret (je_lst (jl_cons (je_xf TE zz zf (T.gl 21 rfl) (by decide) (pv 3)) jl_nil))))) (.cons (ts := [.c "NoStore"]) (tags_cons (T.gl 22 rfl) tags_nil) (tst_one ⟨rfl, by decide, .inl (T.gl 22 rfl)⟩) (i := 3) rfl rfl (fun aa oe cls dd pn zz zf => (jss_one (js_ret (je_lst (jl_cons (je_xf TE zz zf (T.gl 22 rfl) (by decide) (pv 3)) jl_nil))))) (.cons (ts := [.c "NoHandler"]) (tags_cons (T.gl 24 rfl) tags_nil) (tst_one ⟨rfl, by decide, .inl (T.gl 24 rfl)⟩) (i := 3) rfl rfl (fun aa oe cls dd pn zz zf => (jss_one (js_ret (je_lst (jl_cons (je_xf TE zz zf (T.gl 24 rfl) (by decide) (pv 3)) jl_nil))))) (.cons (ts := [.c "NoRow"]) (tags_cons (T.gl 25 rfl) tags_nil) (tst_one ⟨rfl, by decide, .inl (T.gl 25 rfl)⟩) (i := 3) rfl rfl (fun aa oe cls dd pn zz zf => (jss_one (js_ret (je_lst (jl_cons (je_xf TE zz zf (T.gl 25 rfl) (by decide) (pv 3)) jl_nil))))) (.cons (ts := [.c "NotThere", .c "Erased"]) (tags_cons (T.gl 26 rfl) (tags_cons (T.gl 31 rfl) tags_nil)) (E.tst_tup (.cons ⟨rfl, by decide, .inl (T.gl 26 rfl)⟩ (.cons ⟨rfl, by decide, .inl (T.gl 31 rfl)⟩ .nil)) (by simp)) (i := 3) rfl rfl (fun aa oe cls dd pn zz zf => (jss_one (js_ret (je_lst (jl_cons (je_xfA TE zz zf (pv 3)) jl_nil))))) (.cons (ts := [.c "NotReached"]) (tags_cons (T.gl 27 rfl) tags_nil) (tst_one ⟨rfl, by decide, .inl (T.gl 27 rfl)⟩) (i := 3) rfl rfl (fun aa oe cls dd pn zz zf => (jss_one (js_ret (je_lst (jl_cons (je_xf TE zz zf (T.gl 27 rfl) (by decide) (pv 3)) jl_nil))))) (.cons (ts := [.c "TooMany"]) (tags_cons (T.gl 28 rfl) tags_nil) (tst_one ⟨rfl, by decide, .inl (T.gl 28 rfl)⟩) (i := 3) rfl rfl (fun aa oe cls dd pn zz zf => (jss_one (js_ret (je_lst (jl_cons (je_xf TE zz zf (T.gl 28 rfl) (by decide) (pv 3)) jl_nil))))) (.cons (ts := [.c "NotAllowed"]) (tags_cons (T.gl 29 rfl) tags_nil) (tst_one ⟨rfl, by decide, .inl (T.gl 29 rfl)⟩) (i := 3) rfl rfl (fun aa oe cls dd pn zz zf => (jss_one (js_ret (je_lst (jl_cons (je_xf TE zz zf (T.gl 29 rfl) (by decide) (pv 3)) (jl_cons (je_xf TE zz zf (T.gl 29 rfl) (by decide) (pv 3)) jl_nil)))))) .nil))))))))))))))))))
 (jss_one (js_ret (je_lst jl_nil))))
def F_law_told : List D → List D → EM D := fun ds es => match (arrP p_law_told.length 0 []) ds es with
  | some bs => fnB N_law_told.length b_law_told bs
  | none => no

abbrev s_law_kinds : Stmt := top 32
abbrev N_law_kinds : List Str := ["_law_k", "_law_one", "_law_two", "e", "_law_own", "_law_base", "_law_found", "_law_at", "_law_is_one"]
abbrev p_law_kinds : List Str := ["_law_k", "_law_one", "_law_two"]
theorem sc_law_kinds : FnScope N_law_kinds p_law_kinds (defScope s_law_kinds) := ⟨rfl, rfl, rfl, by decide +kernel, rfl, by decide +kernel, by decide +kernel⟩
def b_law_kinds_1 : XS :=
 (sRet (xLst aNil))
def b_law_kinds : XS :=
 (sSeq (sTryT te (sDrop (xCall (kChk ([] : List Str).length F_law_deed) (aCons (xVar 0) (aCons (xVar 1) (aCons (xVar 2) aNil))) aNil)) (([.c "BadName", .c "Twice", .c "BadValue", .c "BadStep", .c "BadErasing", .c "BadLine", .c "BadEvent", .c "BadPeople", .c "BadPattern", .c "BadState", .c "BadRuns", .c "BadText", .c "BadCommand", .c "NoStore", .c "NoPart", .c "NoHandler", .c "NoRow", .c "NotThere", .c "NotReached", .c "TooMany", .c "NotAllowed", .c "Refused", .c "Erased"], 3, (sSeq (sSet 4 (xLst (aCons (xIsX te tb 3 (.c "BadName")) (aCons (xIsX te tb 3 (.c "Twice")) (aCons (xIsX te tb 3 (.c "BadValue")) aNil)))))
 (sSeq (sSet 4 (x2 dAdd (xVar 4) (xLst (aCons (xIsX te tb 3 (.c "BadStep")) (aCons (xIsX te tb 3 (.c "BadErasing")) (aCons (xIsX te tb 3 (.c "BadLine")) aNil))))))
 (sSeq (sSet 4 (x2 dAdd (xVar 4) (xLst (aCons (xIsX te tb 3 (.c "BadEvent")) (aCons (xIsX te tb 3 (.c "BadPeople")) (aCons (xIsX te tb 3 (.c "BadPattern")) aNil))))))
 (sSeq (sSet 4 (x2 dAdd (xVar 4) (xLst (aCons (xIsX te tb 3 (.c "BadState")) (aCons (xIsX te tb 3 (.c "BadRuns")) (aCons (xIsX te tb 3 (.c "BadText")) aNil))))))
 (sSeq (sSet 4 (x2 dAdd (xVar 4) (xLst (aCons (xIsX te tb 3 (.c "BadCommand")) (aCons (xIsX te tb 3 (.c "NoStore")) (aCons (xIsX te tb 3 (.c "NoPart")) aNil))))))
 (sSeq (sSet 4 (x2 dAdd (xVar 4) (xLst (aCons (xIsX te tb 3 (.c "NoHandler")) (aCons (xIsX te tb 3 (.c "NoRow")) (aCons (xIsX te tb 3 (.c "NotThere")) aNil))))))
 (sSeq (sSet 4 (x2 dAdd (xVar 4) (xLst (aCons (xIsX te tb 3 (.c "NotReached")) (aCons (xIsX te tb 3 (.c "TooMany")) (aCons (xIsX te tb 3 (.c "NotAllowed")) aNil))))))
 (sSeq (sSet 4 (x2 dAdd (xVar 4) (xLst (aCons (xIsX te tb 3 (.c "Refused")) (aCons (xIsX te tb 3 (.c "Erased")) aNil)))))
 (sSeq (sSet 5 (xLst (aCons (xIsX te tb 3 (.b "ValueError")) (aCons (xIsX te tb 3 (.b "LookupError")) aNil))))
 (sSeq (sSet 5 (x2 dAdd (xVar 5) (xLst (aCons (xIsX te tb 3 (.b "OverflowError")) (aCons (xIsX te tb 3 (.b "RuntimeError")) aNil)))))
 (sSeq (sSet 6 (xLc (iEnu (xVar 4)) (gT 2 (gsCons (gN 7) (gsCons (gN 8) gsNil))) (bV (xVar 8)) (xVar 7) [7, 8]))
 (sRet (x2 dAdd (xVar 6) (xLc (iEnu (xVar 5)) (gT 2 (gsCons (gN 7) (gsCons (gN 8) gsNil))) (bV (xVar 8)) (x2 dAdd (xC (.int 100)) (xVar 7)) [7, 8]))))))))))))))) :: []))
 b_law_kinds_1)
theorem j_law_kinds {P : Program} {w : World} {K : PySem.W.Frag} {mg : Str → Option Value} {base : Heap} (T : Fx K mg freeN gloN ntsN xtsN) (TB : TbOk ⟨P, w, K, mg⟩ tb) (TE : TeOk ⟨P, w, K, mg⟩ te) (c_law_deed : CalG P w K mg base 4 "_law_deed" [] F_law_deed) {f : Addr} (cdv : Value) (A : Around) (outer : List Env) (s : Shared) (H : Hp) (Er : XK) (hr : RmG 4 (A.deeper (envOfC "_law_kinds" (defScope s_law_kinds) s.heap.objs.size f cdv))) :
    JSs (cxOf (L2N.CX P w) P w K mg base N_law_kinds "_law_kinds" (defScope s_law_kinds) f cdv A outer s H Er) {} (defBody s_law_kinds) b_law_kinds := by
  unfold b_law_kinds b_law_kinds_1
  exact (jss_cons (js_tryT TE rfl rfl rfl sc_law_kinds.nd (fun pn xe po => (jss_one (js_drop (je_call c_law_deed hr (by decide) rfl (ja_cons (je_var (pv 0)) (ja_cons (je_var (pv 1)) (ja_cons (je_var (pv 2)) ja_nil))) jk_nil)))) (.cons (ts := [.c "BadName", .c "Twice", .c "BadValue", .c "BadStep", .c "BadErasing", .c "BadLine", .c "BadEvent", .c "BadPeople", .c "BadPattern", .c "BadState", .c "BadRuns", .c "BadText", .c "BadCommand", .c "NoStore", .c "NoPart", .c "NoHandler", .c "NoRow", .c "NotThere", .c "NotReached", .c "TooMany", .c "NotAllowed", .c "Refused", .c "Erased"]) (tags_cons (T.gl 9 rfl) (tags_cons (T.gl 10 rfl) (tags_cons (T.gl 11 rfl) (tags_cons (T.gl 12 rfl) (tags_cons (T.gl 13 rfl) (tags_cons (T.gl 14 rfl) (tags_cons (T.gl 15 rfl) (tags_cons (T.gl 16 rfl) (tags_cons (T.gl 17 rfl) (tags_cons (T.gl 18 rfl) (tags_cons (T.gl 19 rfl) (tags_cons (T.gl 20 rfl) (tags_cons (T.gl 21 rfl) (tags_cons (T.gl 22 rfl) (tags_cons (T.gl 23 rfl) (tags_cons (T.gl 24 rfl) (tags_cons (T.gl 25 rfl) (tags_cons (T.gl 26 rfl) (tags_cons (T.gl 27 rfl) (tags_cons (T.gl 28 rfl) (tags_cons (T.gl 29 rfl) (tags_cons (T.gl 30 rfl) (tags_cons (T.gl 31 rfl) tags_nil))))))))))))))))))))))) (E.tst_tup (.cons ⟨rfl, by decide, .inl (T.gl 9 rfl)⟩ (.cons ⟨rfl, by decide, .inl (T.gl 10 rfl)⟩ (.cons ⟨rfl, by decide, .inl (T.gl 11 rfl)⟩ (.cons ⟨rfl, by decide, .inl (T.gl 12 rfl)⟩ (.cons ⟨rfl, by decide, .inl (T.gl 13 rfl)⟩ (.cons ⟨rfl, by decide, .inl (T.gl 14 rfl)⟩ (.cons ⟨rfl, by decide, .inl (T.gl 15 rfl)⟩ (.cons ⟨rfl, by decide, .inl (T.gl 16 rfl)⟩ (.cons ⟨rfl, by decide, .inl (T.gl 17 rfl)⟩ (.cons ⟨rfl, by decide, .inl (T.gl 18 rfl)⟩ (.cons ⟨rfl, by decide, .inl (T.gl 19 rfl)⟩ (.cons ⟨rfl, by decide, .inl (T.gl 20 rfl)⟩ (.cons ⟨rfl, by decide, .inl (T.gl 21 rfl)⟩ (.cons ⟨rfl, by decide, .inl (T.gl 22 rfl)⟩ (.cons ⟨rfl, by decide, .inl (T.gl 23 rfl)⟩ (.cons ⟨rfl, by decide, .inl (T.gl 24 rfl)⟩ (.cons ⟨rfl, by decide, .inl (T.gl 25 rfl)⟩ (.cons ⟨rfl, by decide, .inl (T.gl 26 rfl)⟩ (.cons ⟨rfl, by decide, .inl (T.gl 27 rfl)⟩ (.cons ⟨rfl, by decide, .inl (T.gl 28 rfl)⟩ (.cons ⟨rfl, by decide, .inl (T.gl 29 rfl)⟩ (.cons ⟨rfl, by decide, .inl (T.gl 30 rfl)⟩ (.cons ⟨rfl, by decide, .inl (T.gl 31 rfl)⟩ .nil))))))))))))))))))))))) (by simp)) (i := 3) rfl rfl (fun aa oe cls dd pn zz zf => (jss_cons (js_set (i := 4) (fun h => ps_set (i := 4) sc_law_kinds.nd rfl (Or.inl rfl) h) (je_lst (jl_cons (je_isX (tg := .c "BadName") (cv := V.ref (He.ga K "BadName")) TE TB zz zf rfl (T.fr 10 rfl) (pv 3) (E.pe_gc rfl ⟨_, (T.gl 9 rfl), rfl⟩) (T.gl 9 rfl) fun _ h => h) (jl_cons (je_isX (tg := .c "Twice") (cv := V.ref (He.ga K "Twice")) TE TB zz zf rfl (T.fr 10 rfl) (pv 3) (E.pe_gc rfl ⟨_, (T.gl 10 rfl), rfl⟩) (T.gl 10 rfl) fun _ h => h) (jl_cons (je_isX (tg := .c "BadValue") (cv := V.ref (He.ga K "BadValue")) TE TB zz zf rfl (T.fr 10 rfl) (pv 3) (E.pe_gc rfl ⟨_, (T.gl 11 rfl), rfl⟩) (T.gl 11 rfl) fun _ h => h) jl_nil)))))
 (jss_cons (js_set (i := 4) (fun h => ps_set (i := 4) sc_law_kinds.nd rfl (Or.inl rfl) h) (je_2 (fun a b => pe_op od_add a b) (je_var (pv 4)) (je_lst (jl_cons (je_isX (tg := .c "BadStep") (cv := V.ref (He.ga K "BadStep")) TE TB zz zf rfl (T.fr 10 rfl) (pv 3) (E.pe_gc rfl ⟨_, (T.gl 12 rfl), rfl⟩) (T.gl 12 rfl) fun _ h => h) (jl_cons (je_isX (tg := .c "BadErasing") (cv := V.ref (He.ga K "BadErasing")) TE TB zz zf rfl (T.fr 10 rfl) (pv 3) (E.pe_gc rfl ⟨_, (T.gl 13 rfl), rfl⟩) (T.gl 13 rfl) fun _ h => h) (jl_cons (je_isX (tg := .c "BadLine") (cv := V.ref (He.ga K "BadLine")) TE TB zz zf rfl (T.fr 10 rfl) (pv 3) (E.pe_gc rfl ⟨_, (T.gl 14 rfl), rfl⟩) (T.gl 14 rfl) fun _ h => h) jl_nil))))))
 (jss_cons (js_set (i := 4) (fun h => ps_set (i := 4) sc_law_kinds.nd rfl (Or.inl rfl) h) (je_2 (fun a b => pe_op od_add a b) (je_var (pv 4)) (je_lst (jl_cons (je_isX (tg := .c "BadEvent") (cv := V.ref (He.ga K "BadEvent")) TE TB zz zf rfl (T.fr 10 rfl) (pv 3) (E.pe_gc rfl ⟨_, (T.gl 15 rfl), rfl⟩) (T.gl 15 rfl) fun _ h => h) (jl_cons (je_isX (tg := .c "BadPeople") (cv := V.ref (He.ga K "BadPeople")) TE TB zz zf rfl (T.fr 10 rfl) (pv 3) (E.pe_gc rfl ⟨_, (T.gl 16 rfl), rfl⟩) (T.gl 16 rfl) fun _ h => h) (jl_cons (je_isX (tg := .c "BadPattern") (cv := V.ref (He.ga K "BadPattern")) TE TB zz zf rfl (T.fr 10 rfl) (pv 3) (E.pe_gc rfl ⟨_, (T.gl 17 rfl), rfl⟩) (T.gl 17 rfl) fun _ h => h) jl_nil))))))
 (jss_cons (js_set (i := 4) (fun h => ps_set (i := 4) sc_law_kinds.nd rfl (Or.inl rfl) h) (je_2 (fun a b => pe_op od_add a b) (je_var (pv 4)) (je_lst (jl_cons (je_isX (tg := .c "BadState") (cv := V.ref (He.ga K "BadState")) TE TB zz zf rfl (T.fr 10 rfl) (pv 3) (E.pe_gc rfl ⟨_, (T.gl 18 rfl), rfl⟩) (T.gl 18 rfl) fun _ h => h) (jl_cons (je_isX (tg := .c "BadRuns") (cv := V.ref (He.ga K "BadRuns")) TE TB zz zf rfl (T.fr 10 rfl) (pv 3) (E.pe_gc rfl ⟨_, (T.gl 19 rfl), rfl⟩) (T.gl 19 rfl) fun _ h => h) (jl_cons (je_isX (tg := .c "BadText") (cv := V.ref (He.ga K "BadText")) TE TB zz zf rfl (T.fr 10 rfl) (pv 3) (E.pe_gc rfl ⟨_, (T.gl 20 rfl), rfl⟩) (T.gl 20 rfl) fun _ h => h) jl_nil))))))
 (jss_cons (js_set (i := 4) (fun h => ps_set (i := 4) sc_law_kinds.nd rfl (Or.inl rfl) h) (je_2 (fun a b => pe_op od_add a b) (je_var (pv 4)) (je_lst (jl_cons (je_isX (tg := .c "BadCommand") (cv := V.ref (He.ga K "BadCommand")) TE TB zz zf rfl (T.fr 10 rfl) (pv 3) (E.pe_gc rfl ⟨_, (T.gl 21 rfl), rfl⟩) (T.gl 21 rfl) fun _ h => h) (jl_cons (je_isX (tg := .c "NoStore") (cv := V.ref (He.ga K "NoStore")) TE TB zz zf rfl (T.fr 10 rfl) (pv 3) (E.pe_gc rfl ⟨_, (T.gl 22 rfl), rfl⟩) (T.gl 22 rfl) fun _ h => h) (jl_cons (je_isX (tg := .c "NoPart") (cv := V.ref (He.ga K "NoPart")) TE TB zz zf rfl (T.fr 10 rfl) (pv 3) (E.pe_gc rfl ⟨_, (T.gl 23 rfl), rfl⟩) (T.gl 23 rfl) fun _ h => h) jl_nil))))))
 (jss_cons (js_set (i := 4) (fun h => ps_set (i := 4) sc_law_kinds.nd rfl (Or.inl rfl) h) (je_2 (fun a b => pe_op od_add a b) (je_var (pv 4)) (je_lst (jl_cons (je_isX (tg := .c "NoHandler") (cv := V.ref (He.ga K "NoHandler")) TE TB zz zf rfl (T.fr 10 rfl) (pv 3) (E.pe_gc rfl ⟨_, (T.gl 24 rfl), rfl⟩) (T.gl 24 rfl) fun _ h => h) (jl_cons (je_isX (tg := .c "NoRow") (cv := V.ref (He.ga K "NoRow")) TE TB zz zf rfl (T.fr 10 rfl) (pv 3) (E.pe_gc rfl ⟨_, (T.gl 25 rfl), rfl⟩) (T.gl 25 rfl) fun _ h => h) (jl_cons (je_isX (tg := .c "NotThere") (cv := V.ref (He.ga K "NotThere")) TE TB zz zf rfl (T.fr 10 rfl) (pv 3) (E.pe_gc rfl ⟨_, (T.gl 26 rfl), rfl⟩) (T.gl 26 rfl) fun _ h => h) jl_nil))))))
 (jss_cons (js_set (i := 4) (fun h => ps_set (i := 4) sc_law_kinds.nd rfl (Or.inl rfl) h) (je_2 (fun a b => pe_op od_add a b) (je_var (pv 4)) (je_lst (jl_cons (je_isX (tg := .c "NotReached") (cv := V.ref (He.ga K "NotReached")) TE TB zz zf rfl (T.fr 10 rfl) (pv 3) (E.pe_gc rfl ⟨_, (T.gl 27 rfl), rfl⟩) (T.gl 27 rfl) fun _ h => h) (jl_cons (je_isX (tg := .c "TooMany") (cv := V.ref (He.ga K "TooMany")) TE TB zz zf rfl (T.fr 10 rfl) (pv 3) (E.pe_gc rfl ⟨_, (T.gl 28 rfl), rfl⟩) (T.gl 28 rfl) fun _ h => h) (jl_cons (je_isX (tg := .c "NotAllowed") (cv := V.ref (He.ga K "NotAllowed")) TE TB zz zf rfl (T.fr 10 rfl) (pv 3) (E.pe_gc rfl ⟨_, (T.gl 29 rfl), rfl⟩) (T.gl 29 rfl) fun _ h => h) jl_nil))))))
 (jss_cons (js_set (i := 4) (fun h => ps_set (i := 4) sc_law_kinds.nd rfl (Or.inl rfl) h) (je_2 (fun a b => pe_op od_add a b) (je_var (pv 4)) (je_lst (jl_cons (je_isX (tg := .c "Refused") (cv := V.ref (He.ga K "Refused")) TE TB zz zf rfl (T.fr 10 rfl) (pv 3) (E.pe_gc rfl ⟨_, (T.gl 30 rfl), rfl⟩) (T.gl 30 rfl) fun _ h => h) (jl_cons (je_isX (tg := .c "Erased") (cv := V.ref (He.ga K "Erased")) TE TB zz zf rfl (T.fr 10 rfl) (pv 3) (E.pe_gc rfl ⟨_, (T.gl 31 rfl), rfl⟩) (T.gl 31 rfl) fun _ h => h) jl_nil)))))
 (jss_cons (js_set (i := 5) (fun h => ps_set (i := 5) sc_law_kinds.nd rfl (Or.inl rfl) h) (je_lst (jl_cons (je_isX (tg := .b "ValueError") (cv := V.ty "ValueError") TE TB zz zf rfl (T.fr 10 rfl) (pv 3) (pe_bltn rfl (T.fr 21 rfl) (by decide +kernel) rfl) rfl fun _ h => h) (jl_cons (je_isX (tg := .b "LookupError") (cv := V.ty "LookupError") TE TB zz zf rfl (T.fr 10 rfl) (pv 3) (pe_bltn rfl (T.fr 23 rfl) (by decide +kernel) rfl) rfl fun _ h => h) jl_nil))))
 (jss_cons (js_set (i := 5) (fun h => ps_set (i := 5) sc_law_kinds.nd rfl (Or.inl rfl) h) (je_2 (fun a b => pe_op od_add a b) (je_var (pv 5)) (je_lst (jl_cons (je_isX (tg := .b "OverflowError") (cv := V.ty "OverflowError") TE TB zz zf rfl (T.fr 10 rfl) (pv 3) (pe_bltn rfl (T.fr 22 rfl) (by decide +kernel) rfl) rfl fun _ h => h) (jl_cons (je_isX (tg := .b "RuntimeError") (cv := V.ty "RuntimeError") TE TB zz zf rfl (T.fr 10 rfl) (pv 3) (pe_bltn rfl (T.fr 24 rfl) (by decide +kernel) rfl) rfl fun _ h => h) jl_nil)))))
 (jss_cons (js_setLcH (i := 6) (own := [("_law_at", 7), ("_law_is_one", 8)]) (hot_suite zz zf) sc_law_kinds.nd rfl rfl (sw_true rfl rfl rfl (by decide +kernel)) (ji_enuH rfl (T.fr 15 rfl) (je_var (pv 4))) (blkOk_by (own := [("_law_at", 7), ("_law_is_one", 8)]) (N := N_law_kinds) (sc := defScope s_law_kinds) (by decide +kernel)) (fun _ _ _ _ _ _ hh => (jg_tupH hh (jgs_cons (jg_name (pg_name (i := 7) sc_law_kinds.nd rfl (Or.inl rfl))) (jgs_cons (jg_name (pg_name (i := 8) sc_law_kinds.nd rfl (Or.inl rfl))) jgs_nil)))) (fun _ _ _ _ _ _ hh => (jts_one (jt_val (fun h => pt_val h) (je_var (pv 8))))) (fun _ _ _ _ _ _ hh => (je_var (pv 7))))
 (jss_one (js_ret (je_2 (fun a b => pe_op od_add a b) (je_var (pv 6)) (je_lcH (own := [("_law_at", 7), ("_law_is_one", 8)]) (hot_suite zz zf) sc_law_kinds.nd (ji_enuH rfl (T.fr 15 rfl) (je_var (pv 5))) (blkOk_by (own := [("_law_at", 7), ("_law_is_one", 8)]) (N := N_law_kinds) (sc := defScope s_law_kinds) (by decide +kernel)) (fun _ _ _ _ _ _ hh => (jg_tupH hh (jgs_cons (jg_name (pg_name (i := 7) sc_law_kinds.nd rfl (Or.inl rfl))) (jgs_cons (jg_name (pg_name (i := 8) sc_law_kinds.nd rfl (Or.inl rfl))) jgs_nil)))) (fun _ _ _ _ _ _ hh => (jts_one (jt_val (fun h => pt_val h) (je_var (pv 8))))) (fun _ _ _ _ _ _ hh => (je_2 (fun a b => pe_op od_add a b) je_int (je_var (pv 7)))))))))))))))))))) .nil))
 (jss_one (js_ret (je_lst jl_nil))))
def F_law_kinds : List D → List D → EM D := fun ds es => match (arrP p_law_kinds.length 0 []) ds es with
  | some bs => fnB N_law_kinds.length b_law_kinds bs
  | none => no

abbrev s_law : Stmt := top 33
abbrev N_law : List Str := ["_law_script", "_law_at", "_law_bag_here", "_law_one", "_law_two", "_law_k", "_law_due", "_law_base"]
abbrev p_law : List Str := ["_law_script"]
theorem sc_law : FnScope N_law p_law (defScope s_law) := ⟨rfl, rfl, rfl, by decide +kernel, rfl, by decide +kernel, by decide +kernel⟩
def b_law_1 : XS :=
 (sRet (xC (.bl true)))
def b_law : XS :=
 (sSeq (sFor (iRng (xN dMax (aCons (xC (.int 1)) (aCons (xN dMin (aCons (xC (.int 5)) (aCons (xN dLen (aCons (xVar 0) aNil)) aNil))) aNil)))) (gN 1) (sSeq (sSet 2 (xCall (kChk ([] : List Str).length F_law_bag) (aCons (xVar 0) (aCons (xVar 1) aNil)) aNil))
 (sSeq (sSet 3 (xCall (kChk ([] : List Str).length F_law_of) (aCons (xVar 2) (aCons (xLst (aCons (xC (.str "ann")) (aCons (xC (.str "")) (aCons (xC .non) (aCons (xTup (aCons (xC (.str "a")) (aCons (xC (.int 1)) aNil))) (aCons (xTup (aCons (xC (.int 0)) (aCons (xTup aNil) aNil))) (aCons (xC (.int 7)) aNil))))))) aNil)) aNil))
 (sSeq (sSet 4 (x2 dSub (xCall (kChk ([] : List Str).length F_law_draw) (aCons (xVar 2) (aCons (x2 dPow (xC (.int 10)) (xC (.int 12))) aNil)) aNil) (xC (.int 5))))
 (sFor (iRng (xC (.int 23))) (gN 5) (sSeq (sSet 6 (xLst (aCons (xVar 3) aNil)))
 (sSeq (sIf (bV (x2 dIn (xVar 5) (xLst (aCons (xC (.int 3)) (aCons (xC (.int 20)) (aCons (xC (.int 21)) aNil)))))) (sSet 6 (xLst (aCons (xVar 3) (aCons (xVar 4) aNil)))) sNx)
 (sSeq (sIf (bV (x2 dIn (xVar 5) (xLst (aCons (xC (.int 4)) (aCons (xC (.int 5)) (aCons (xC (.int 7)) (aCons (xC (.int 9)) (aCons (xC (.int 10)) (aCons (xC (.int 11)) (aCons (xC (.int 16)) (aCons (xC (.int 19)) aNil))))))))))) (sSet 6 (xLst (aCons (xVar 4) aNil))) sNx)
 (sSeq (sIf (bV (x2 dNe (xCall (kChk ([] : List Str).length F_law_told) (aCons (xVar 5) (aCons (xVar 3) (aCons (xVar 4) aNil))) aNil) (xVar 6))) (sRet (xC (.bl false))) sNx)
 (sSeq (sSet 7 (x2 dAdd (x2 dAdd (x2 dAdd (xC (.int 100)) (xN dInt (aCons (x2 dGt (xVar 5) (xC (.int 12))) aNil))) (xN dInt (aCons (x2 dGt (xVar 5) (xC (.int 18))) aNil))) (xN dInt (aCons (x2 dGt (xVar 5) (xC (.int 19))) aNil))))
 (sIf (bV (x2 dNe (xCall (kChk ([] : List Str).length F_law_kinds) (aCons (xVar 5) (aCons (xVar 3) (aCons (xVar 4) aNil))) aNil) (xLst (aCons (xVar 5) (aCons (xVar 7) aNil))))) (sRet (xC (.bl false))) sNx)))))))))))
 b_law_1)
theorem j_law {P : Program} {w : World} {K : PySem.W.Frag} {mg : Str → Option Value} {base : Heap} (T : Fx K mg freeN gloN ntsN xtsN) (TB : TbOk ⟨P, w, K, mg⟩ tb) (TE : TeOk ⟨P, w, K, mg⟩ te) (c_law_bag : CalG P w K mg base 1 "_law_bag" [] F_law_bag) (c_law_of : CalG P w K mg base 2 "_law_of" [] F_law_of) (c_law_draw : CalG P w K mg base 1 "_law_draw" [] F_law_draw) (c_law_told : CalG P w K mg base 5 "_law_told" [] F_law_told) (c_law_kinds : CalG P w K mg base 5 "_law_kinds" [] F_law_kinds) {f : Addr} (cdv : Value) (A : Around) (outer : List Env) (s : Shared) (H : Hp) (Er : XK) (hr : RmG 5 (A.deeper (envOfC "law" (defScope s_law) s.heap.objs.size f cdv))) :
    JSs (cxOf (L2N.CX P w) P w K mg base N_law "law" (defScope s_law) f cdv A outer s H Er) {} (defBody s_law) b_law := by
  unfold b_law b_law_1
  exact (jss_cons (js_for (passes_of rfl) rfl (ji_rng rfl (T.fr 5 rfl) (je_N (fun h => pe_callB (cd_max rfl) rfl (T.fr 4 rfl) (by decide +kernel) h) (ja_cons je_int (ja_cons (je_N (fun h => pe_callB (cd_min rfl) rfl (T.fr 3 rfl) (by decide +kernel) h) (ja_cons je_int (ja_cons (je_N (fun h => pe_callB cd_len rfl (T.fr 1 rfl) (by decide +kernel) h) (ja_cons (je_var (pv 0)) ja_nil)) ja_nil))) ja_nil)))) (jg_name (pg_name (i := 1) sc_law.nd rfl (Or.inl rfl))) (jss_cons (js_set (i := 2) (fun h => ps_set (i := 2) sc_law.nd rfl (Or.inl rfl) h) (je_call c_law_bag hr (by decide) rfl (ja_cons (je_var (pv 0)) (ja_cons (je_var (pv 1)) ja_nil)) jk_nil))
 (jss_cons (js_set (i := 3) (fun h => ps_set (i := 3) sc_law.nd rfl (Or.inl rfl) h) (je_call c_law_of hr (by decide) rfl (ja_cons (je_var (pv 2)) (ja_cons (je_lst (jl_cons je_str (jl_cons je_str (jl_cons je_non (jl_cons (je_tup (jl_cons je_str (jl_cons je_int jl_nil))) (jl_cons (je_tup (jl_cons je_int (jl_cons (je_tup jl_nil) jl_nil))) (jl_cons je_int jl_nil))))))) ja_nil)) jk_nil))
 (jss_cons (js_set (i := 4) (fun h => ps_set (i := 4) sc_law.nd rfl (Or.inl rfl) h) (je_2 (fun a b => pe_op od_sub a b) (je_call c_law_draw hr (by decide) rfl (ja_cons (je_var (pv 2)) (ja_cons (je_2 (fun a b => pe_op od_pow a b) je_int je_int) ja_nil)) jk_nil) je_int))
 (jss_one (js_for (passes_of rfl) rfl (ji_rng rfl (T.fr 5 rfl) je_int) (jg_name (pg_name (i := 5) sc_law.nd rfl (Or.inl rfl))) (jss_cons (js_set (i := 6) (fun h => ps_set (i := 6) sc_law.nd rfl (Or.inl rfl) h) (je_lst (jl_cons (je_var (pv 3)) jl_nil)))
 (jss_cons (js_if (jt_2 (fun a b => pt_cmpR od_in a b rfl) (je_var (pv 5)) (je_lst (jl_cons je_int (jl_cons je_int (jl_cons je_int jl_nil))))) (jss_one (js_set (i := 6) (fun h => ps_set (i := 6) sc_law.nd rfl (Or.inl rfl) h) (je_lst (jl_cons (je_var (pv 3)) (jl_cons (je_var (pv 4)) jl_nil))))) jss_nil)
 (jss_cons (js_if (jt_2 (fun a b => pt_cmpR od_in a b rfl) (je_var (pv 5)) (je_lst (jl_cons je_int (jl_cons je_int (jl_cons je_int (jl_cons je_int (jl_cons je_int (jl_cons je_int (jl_cons je_int (jl_cons je_int jl_nil)))))))))) (jss_one (js_set (i := 6) (fun h => ps_set (i := 6) sc_law.nd rfl (Or.inl rfl) h) (je_lst (jl_cons (je_var (pv 4)) jl_nil)))) jss_nil)
 (jss_cons (js_if (jt_2 (fun a b => pt_cmpR (od_ne hr.room.units) a b (nomark _)) (je_call c_law_told hr (by decide) rfl (ja_cons (je_var (pv 5)) (ja_cons (je_var (pv 3)) (ja_cons (je_var (pv 4)) ja_nil))) jk_nil) (je_var (pv 6))) (jss_one (js_ret je_bl)) jss_nil)
 (jss_cons (js_set (i := 7) (fun h => ps_set (i := 7) sc_law.nd rfl (Or.inl rfl) h) (je_2 (fun a b => pe_op od_add a b) (je_2 (fun a b => pe_op od_add a b) (je_2 (fun a b => pe_op od_add a b) je_int (je_N (fun h => pe_callTy cd_int rfl (T.fr 0 rfl) (by decide +kernel) h) (ja_cons (je_2 (fun a b => pe_cmpR od_gt a b (nomark _)) (je_var (pv 5)) je_int) ja_nil))) (je_N (fun h => pe_callTy cd_int rfl (T.fr 0 rfl) (by decide +kernel) h) (ja_cons (je_2 (fun a b => pe_cmpR od_gt a b (nomark _)) (je_var (pv 5)) je_int) ja_nil))) (je_N (fun h => pe_callTy cd_int rfl (T.fr 0 rfl) (by decide +kernel) h) (ja_cons (je_2 (fun a b => pe_cmpR od_gt a b (nomark _)) (je_var (pv 5)) je_int) ja_nil))))
 (jss_one (js_if (jt_2 (fun a b => pt_cmpR (od_ne hr.room.units) a b (nomark _)) (je_call c_law_kinds hr (by decide) rfl (ja_cons (je_var (pv 5)) (ja_cons (je_var (pv 3)) (ja_cons (je_var (pv 4)) ja_nil))) jk_nil) (je_lst (jl_cons (je_var (pv 5)) (jl_cons (je_var (pv 7)) jl_nil)))) (jss_one (js_ret je_bl)) jss_nil)))))))))))))
 (jss_one (js_ret je_bl)))
def F_law : List D → List D → EM D := fun ds es => match (arrP p_law.length 0 []) ds es with
  | some bs => fnB N_law.length b_law bs
  | none => no

end F

namespace F
open PySem L2
local macro_rules | `(tactic| walk_at "w") => `(tactic| simp only [w_run, w_var, w_c, w_1, w_2, w_N, w_bV, w_bNot, w_bOr, w_bAnd, w_xOr, w_xAnd, w_xNot, w_xIf, w_aNil, w_aCons, w_aStar, w_tup, w_lst, w_tupS, w_lstS, w_lstC, w_listC, w_oNone, w_oSome, w_sl, w_join, w_call, w_callS, w_chk, w_at, w_lenO, w_chain, w_tru, w_inO, w_xf, w_isX, w_eq, w_lc, w_iSeq, w_iEnu, w_iStr, w_iRng, w_yes, w_notT, w_binI, w_lenI, w_iEnuT, w_inI, w_prop, w_strI, w_boolI, w_js0, w_js, w_tm, w_addC, w_dOwn, w_dVal, w_dg, w_din, w_dget, w_dvals, w_ixI, w_meth, w_ixO, x_ixO, w_sumO,
  s_seq, s_nx, s_set, s_drop, s_ret, s_retN, s_if, s_asg, s_par2, s_par3, s_raise, s_ownC, s_ownL, s_mutO, s_own, s_addO, s_fldO, s_for, s_setI, s_turn, s_dput, s_par2O, s_par3O,
  ex_some, ex_if, ex_none, ex_bl, ex_int, ex_str, x_addI, x_addS, x_addT, x_addL, x_sub, x_mul, x_mod, x_div, x_pow, x_lt, x_le, x_gt, x_ge, x_neg, x_int, x_abs, x_min, x_max, x_lenS, x_lenL, x_lenW, x_lenT, x_eqS, x_neS, x_eqI, x_neI, x_isN, x_notN, x_ixL, x_ixW, x_ixT, x_ixS, x_tupL, x_tupT, x_frzL, x_frzT, x_frzW, x_enuL, x_enuT, x_seqL, x_seqT, x_gN, x_g2, x_listT, x_truL, x_slT, x_lenT, x_slL, w_tix, w_iZip, x_zip, x_tupOf, x_g3, x_fmt, x_boolT, x_eqBl, x_neBl, isi_bB, isi_t, x_inL, x_inT,
  List.getElem?_cons_zero, List.getElem?_cons_succ, List.set_cons_zero, List.set_cons_succ, List.length_nil, wipeL, decide_eq_true_eq, Bool.not_eq_true', decide_eq_false_iff_not, true_and, and_true])
/-! the law: each error tells what it takes, and is of its classes alone -/
def due (k : Nat) (one two : D) : List D := if k = 3 ∨ k = 20 ∨ k = 21 then [one, two] else if k = 4 ∨ k = 5 ∨ k = 7 ∨ k = 9 ∨ k = 10 ∨ k = 11 ∨ k = 16 ∨ k = 19 then [two] else [one]
def bas (k : Nat) : Int := if k > 19 then 103 else if k > 18 then 102 else if k > 12 then 101 else 100
theorem e_draw : F_law_draw = H2_law_draw := rfl
theorem e_bag : F_law_bag = H2_law_bag := rfl
theorem e_of : F_law_of = H2_law_of := rfl
theorem told_0 (one : D) (t : Int) (cs : Cells) : F_law_told [.int (0 : Nat), one, .int t] [] cs = .ok (.lst (due 0 one (.int t))) cs := by kernel_rfl
theorem kinds_0 (one : D) (t : Int) (cs : Cells) : F_law_kinds [.int (0 : Nat), one, .int t] [] cs = .ok (.lst [.int (0 : Nat), .int (bas 0)]) cs := by kernel_rfl
theorem told_1 (one : D) (t : Int) (cs : Cells) : F_law_told [.int (1 : Nat), one, .int t] [] cs = .ok (.lst (due 1 one (.int t))) cs := by kernel_rfl
theorem kinds_1 (one : D) (t : Int) (cs : Cells) : F_law_kinds [.int (1 : Nat), one, .int t] [] cs = .ok (.lst [.int (1 : Nat), .int (bas 1)]) cs := by kernel_rfl
theorem told_2 (one : D) (t : Int) (cs : Cells) : F_law_told [.int (2 : Nat), one, .int t] [] cs = .ok (.lst (due 2 one (.int t))) cs := by kernel_rfl
theorem kinds_2 (one : D) (t : Int) (cs : Cells) : F_law_kinds [.int (2 : Nat), one, .int t] [] cs = .ok (.lst [.int (2 : Nat), .int (bas 2)]) cs := by kernel_rfl
theorem told_3 (one : D) (t : Int) (cs : Cells) : F_law_told [.int (3 : Nat), one, .int t] [] cs = .ok (.lst (due 3 one (.int t))) cs := by kernel_rfl
theorem kinds_3 (one : D) (t : Int) (cs : Cells) : F_law_kinds [.int (3 : Nat), one, .int t] [] cs = .ok (.lst [.int (3 : Nat), .int (bas 3)]) cs := by kernel_rfl
theorem told_4 (one : D) (t : Int) (cs : Cells) : F_law_told [.int (4 : Nat), one, .int t] [] cs = .ok (.lst (due 4 one (.int t))) cs := by kernel_rfl
theorem kinds_4 (one : D) (t : Int) (cs : Cells) : F_law_kinds [.int (4 : Nat), one, .int t] [] cs = .ok (.lst [.int (4 : Nat), .int (bas 4)]) cs := by kernel_rfl
theorem told_5 (one : D) (t : Int) (cs : Cells) : F_law_told [.int (5 : Nat), one, .int t] [] cs = .ok (.lst (due 5 one (.int t))) cs := by kernel_rfl
theorem kinds_5 (one : D) (t : Int) (cs : Cells) : F_law_kinds [.int (5 : Nat), one, .int t] [] cs = .ok (.lst [.int (5 : Nat), .int (bas 5)]) cs := by kernel_rfl
theorem told_6 (one : D) (t : Int) (cs : Cells) : F_law_told [.int (6 : Nat), one, .int t] [] cs = .ok (.lst (due 6 one (.int t))) cs := by kernel_rfl
theorem kinds_6 (one : D) (t : Int) (cs : Cells) : F_law_kinds [.int (6 : Nat), one, .int t] [] cs = .ok (.lst [.int (6 : Nat), .int (bas 6)]) cs := by kernel_rfl
theorem told_7 (one : D) (t : Int) (cs : Cells) : F_law_told [.int (7 : Nat), one, .int t] [] cs = .ok (.lst (due 7 one (.int t))) cs := by kernel_rfl
theorem kinds_7 (one : D) (t : Int) (cs : Cells) : F_law_kinds [.int (7 : Nat), one, .int t] [] cs = .ok (.lst [.int (7 : Nat), .int (bas 7)]) cs := by kernel_rfl
theorem told_8 (one : D) (t : Int) (cs : Cells) : F_law_told [.int (8 : Nat), one, .int t] [] cs = .ok (.lst (due 8 one (.int t))) cs := by kernel_rfl
theorem kinds_8 (one : D) (t : Int) (cs : Cells) : F_law_kinds [.int (8 : Nat), one, .int t] [] cs = .ok (.lst [.int (8 : Nat), .int (bas 8)]) cs := by kernel_rfl
theorem told_9 (one : D) (t : Int) (cs : Cells) : F_law_told [.int (9 : Nat), one, .int t] [] cs = .ok (.lst (due 9 one (.int t))) cs := by kernel_rfl
theorem kinds_9 (one : D) (t : Int) (cs : Cells) : F_law_kinds [.int (9 : Nat), one, .int t] [] cs = .ok (.lst [.int (9 : Nat), .int (bas 9)]) cs := by kernel_rfl
theorem told_10 (one : D) (t : Int) (cs : Cells) : F_law_told [.int (10 : Nat), one, .int t] [] cs = .ok (.lst (due 10 one (.int t))) cs := by kernel_rfl
theorem kinds_10 (one : D) (t : Int) (cs : Cells) : F_law_kinds [.int (10 : Nat), one, .int t] [] cs = .ok (.lst [.int (10 : Nat), .int (bas 10)]) cs := by kernel_rfl
theorem told_11 (one : D) (t : Int) (cs : Cells) : F_law_told [.int (11 : Nat), one, .int t] [] cs = .ok (.lst (due 11 one (.int t))) cs := by kernel_rfl
theorem kinds_11 (one : D) (t : Int) (cs : Cells) : F_law_kinds [.int (11 : Nat), one, .int t] [] cs = .ok (.lst [.int (11 : Nat), .int (bas 11)]) cs := by kernel_rfl
theorem told_12 (one : D) (t : Int) (cs : Cells) : F_law_told [.int (12 : Nat), one, .int t] [] cs = .ok (.lst (due 12 one (.int t))) cs := by kernel_rfl
theorem kinds_12 (one : D) (t : Int) (cs : Cells) : F_law_kinds [.int (12 : Nat), one, .int t] [] cs = .ok (.lst [.int (12 : Nat), .int (bas 12)]) cs := by kernel_rfl
theorem told_13 (one : D) (t : Int) (cs : Cells) : F_law_told [.int (13 : Nat), one, .int t] [] cs = .ok (.lst (due 13 one (.int t))) cs := by kernel_rfl
theorem kinds_13 (one : D) (t : Int) (cs : Cells) : F_law_kinds [.int (13 : Nat), one, .int t] [] cs = .ok (.lst [.int (13 : Nat), .int (bas 13)]) cs := by kernel_rfl
theorem told_14 (one : D) (t : Int) (cs : Cells) : F_law_told [.int (14 : Nat), one, .int t] [] cs = .ok (.lst (due 14 one (.int t))) cs := by kernel_rfl
theorem kinds_14 (one : D) (t : Int) (cs : Cells) : F_law_kinds [.int (14 : Nat), one, .int t] [] cs = .ok (.lst [.int (14 : Nat), .int (bas 14)]) cs := by kernel_rfl
theorem told_15 (one : D) (t : Int) (cs : Cells) : F_law_told [.int (15 : Nat), one, .int t] [] cs = .ok (.lst (due 15 one (.int t))) cs := by kernel_rfl
theorem kinds_15 (one : D) (t : Int) (cs : Cells) : F_law_kinds [.int (15 : Nat), one, .int t] [] cs = .ok (.lst [.int (15 : Nat), .int (bas 15)]) cs := by kernel_rfl
theorem told_16 (one : D) (t : Int) (cs : Cells) : F_law_told [.int (16 : Nat), one, .int t] [] cs = .ok (.lst (due 16 one (.int t))) cs := by kernel_rfl
theorem kinds_16 (one : D) (t : Int) (cs : Cells) : F_law_kinds [.int (16 : Nat), one, .int t] [] cs = .ok (.lst [.int (16 : Nat), .int (bas 16)]) cs := by kernel_rfl
theorem told_17 (one : D) (t : Int) (cs : Cells) : F_law_told [.int (17 : Nat), one, .int t] [] cs = .ok (.lst (due 17 one (.int t))) cs := by kernel_rfl
theorem kinds_17 (one : D) (t : Int) (cs : Cells) : F_law_kinds [.int (17 : Nat), one, .int t] [] cs = .ok (.lst [.int (17 : Nat), .int (bas 17)]) cs := by kernel_rfl
theorem told_18 (one : D) (t : Int) (cs : Cells) : F_law_told [.int (18 : Nat), one, .int t] [] cs = .ok (.lst (due 18 one (.int t))) cs := by kernel_rfl
theorem kinds_18 (one : D) (t : Int) (cs : Cells) : F_law_kinds [.int (18 : Nat), one, .int t] [] cs = .ok (.lst [.int (18 : Nat), .int (bas 18)]) cs := by kernel_rfl
theorem told_19 (one : D) (t : Int) (cs : Cells) : F_law_told [.int (19 : Nat), one, .int t] [] cs = .ok (.lst (due 19 one (.int t))) cs := by kernel_rfl
theorem kinds_19 (one : D) (t : Int) (cs : Cells) : F_law_kinds [.int (19 : Nat), one, .int t] [] cs = .ok (.lst [.int (19 : Nat), .int (bas 19)]) cs := by kernel_rfl
theorem told_20 (one : D) (t : Int) (cs : Cells) : F_law_told [.int (20 : Nat), one, .int t] [] cs = .ok (.lst (due 20 one (.int t))) cs := by kernel_rfl
theorem kinds_20 (one : D) (t : Int) (cs : Cells) : F_law_kinds [.int (20 : Nat), one, .int t] [] cs = .ok (.lst [.int (20 : Nat), .int (bas 20)]) cs := by kernel_rfl
theorem told_21 (one : D) (t : Int) (cs : Cells) : F_law_told [.int (21 : Nat), one, .int t] [] cs = .ok (.lst (due 21 one (.int t))) cs := by kernel_rfl
theorem kinds_21 (one : D) (t : Int) (cs : Cells) : F_law_kinds [.int (21 : Nat), one, .int t] [] cs = .ok (.lst [.int (21 : Nat), .int (bas 21)]) cs := by kernel_rfl
theorem told_22 (one : D) (t : Int) (cs : Cells) : F_law_told [.int (22 : Nat), one, .int t] [] cs = .ok (.lst (due 22 one (.int t))) cs := by kernel_rfl
theorem kinds_22 (one : D) (t : Int) (cs : Cells) : F_law_kinds [.int (22 : Nat), one, .int t] [] cs = .ok (.lst [.int (22 : Nat), .int (bas 22)]) cs := by kernel_rfl
theorem told_eq {k : Nat} (hk : k < 23) {one : D} {t : Int} {cs : Cells} : F_law_told [.int (k : Int), one, .int t] [] cs = .ok (.lst (due k one (.int t))) cs := by
  rcases k with _ | _ | _ | _ | _ | _ | _ | _ | _ | _ | _ | _ | _ | _ | _ | _ | _ | _ | _ | _ | _ | _ | _ | k
  · exact told_0 one t cs
  · exact told_1 one t cs
  · exact told_2 one t cs
  · exact told_3 one t cs
  · exact told_4 one t cs
  · exact told_5 one t cs
  · exact told_6 one t cs
  · exact told_7 one t cs
  · exact told_8 one t cs
  · exact told_9 one t cs
  · exact told_10 one t cs
  · exact told_11 one t cs
  · exact told_12 one t cs
  · exact told_13 one t cs
  · exact told_14 one t cs
  · exact told_15 one t cs
  · exact told_16 one t cs
  · exact told_17 one t cs
  · exact told_18 one t cs
  · exact told_19 one t cs
  · exact told_20 one t cs
  · exact told_21 one t cs
  · exact told_22 one t cs
  · omega
theorem kinds_eq {k : Nat} (hk : k < 23) {one : D} {t : Int} {cs : Cells} : F_law_kinds [.int (k : Int), one, .int t] [] cs = .ok (.lst [.int (k : Int), .int (bas k)]) cs := by
  rcases k with _ | _ | _ | _ | _ | _ | _ | _ | _ | _ | _ | _ | _ | _ | _ | _ | _ | _ | _ | _ | _ | _ | _ | k
  · exact kinds_0 one t cs
  · exact kinds_1 one t cs
  · exact kinds_2 one t cs
  · exact kinds_3 one t cs
  · exact kinds_4 one t cs
  · exact kinds_5 one t cs
  · exact kinds_6 one t cs
  · exact kinds_7 one t cs
  · exact kinds_8 one t cs
  · exact kinds_9 one t cs
  · exact kinds_10 one t cs
  · exact kinds_11 one t cs
  · exact kinds_12 one t cs
  · exact kinds_13 one t cs
  · exact kinds_14 one t cs
  · exact kinds_15 one t cs
  · exact kinds_16 one t cs
  · exact kinds_17 one t cs
  · exact kinds_18 one t cs
  · exact kinds_19 one t cs
  · exact kinds_20 one t cs
  · exact kinds_21 one t cs
  · exact kinds_22 one t cs
  · omega
theorem told_wp {k : Nat} (hk : k < 23) {one : D} {t : Int} {cs : Cells} {Q : D → Cells → Prop} {E : Exn → Cells → Prop} (q : Q (.lst (due k one (.int t))) cs) : wp (F_law_told [.int (k : Int), one, .int t] []) cs Q E := by
  unfold wp
  rw [told_eq hk]
  exact q
theorem kinds_wp {k : Nat} (hk : k < 23) {one : D} {t : Int} {cs : Cells} {Q : D → Cells → Prop} {E : Exn → Cells → Prop} (q : Q (.lst [.int (k : Int), .int (bas k)]) cs) : wp (F_law_kinds [.int (k : Int), one, .int t] []) cs Q E := by
  unfold wp
  rw [kinds_eq hk]
  exact q
end F

namespace F
open PySem L2
local macro_rules | `(tactic| walk_at "w") => `(tactic| simp only [w_run, w_var, w_c, w_1, w_2, w_N, w_bV, w_bNot, w_bOr, w_bAnd, w_xOr, w_xAnd, w_xNot, w_xIf, w_aNil, w_aCons, w_aStar, w_tup, w_lst, w_tupS, w_lstS, w_lstC, w_listC, w_oNone, w_oSome, w_sl, w_join, w_call, w_callS, w_chk, w_at, w_lenO, w_chain, w_tru, w_inO, w_xf, w_isX, w_eq, w_lc, w_iSeq, w_iEnu, w_iStr, w_iRng, w_yes, w_notT, w_binI, w_lenI, w_iEnuT,
  s_seq, s_nx, s_set, s_drop, s_ret, s_retN, s_if, s_asg, s_par2, s_par3, s_raise, s_ownC, s_ownL, s_mutO, s_own, s_addO, s_fldO, s_for, s_setI, s_turn,
  ex_some, ex_if, ex_none, ex_bl, ex_int, ex_str, x_addI, x_addS, x_addT, x_addL, x_sub, x_mul, x_mod, x_div, x_pow, x_lt, x_le, x_gt, x_ge, x_neg, x_int, x_abs, x_min, x_max, x_lenS, x_lenL, x_lenW, x_lenT, x_eqS, x_neS, x_eqI, x_neI, x_isN, x_notN, x_ixL, x_ixW, x_ixT, x_ixS, x_tupL, x_tupT, x_frzL, x_frzT, x_frzW, x_enuL, x_enuT, x_seqL, x_seqT, x_gN, x_g2, x_listT, x_truL, x_slT, x_lenT,
  List.getElem?_cons_zero, List.getElem?_cons_succ, List.set_cons_zero, List.set_cons_succ, List.length_nil, wipeL, decide_eq_true_eq, Bool.not_eq_true', decide_eq_false_iff_not, true_and, and_true])
/-! the law -/
theorem okD_due {k : Nat} {one : D} {t : Int} (h : okD one = true) : ∀ d ∈ due k one (.int t), okD d = true := by
  intro d hd
  unfold due at hd
  split at hd
  · rcases List.mem_cons.mp hd with rfl | hd
    · exact h
    · rw [List.mem_singleton.mp hd]; exact okD_int
  · split at hd
    · rw [List.mem_singleton.mp hd]; exact okD_int
    · rw [List.mem_singleton.mp hd]; exact h
theorem ne_selfL {cs : Cells} {xs : List D} (hx : ∀ d ∈ xs, okD d = true) {Z : D → Prop} : (∃ r, dNe cs (.lst xs) (.lst xs) = some r ∧ Z r) ↔ Z (.bl false) := by
  show (∃ r, (eqB cs (.lst xs) (.lst xs)).map (fun b => D.bl (!b)) = some r ∧ Z r) ↔ _
  rw [eqB_dqL hx hx, dqA_self hx]
  exact ex_some
theorem in1 {k : Nat} (hk : k < 23) {cs : Cells} : dIn cs (.int (k : Int)) (.lst [.int 3, .int 20, .int 21]) = some (.bl (decide (k = 3 ∨ k = 20 ∨ k = 21))) := by
  rcases k with _ | _ | _ | _ | _ | _ | _ | _ | _ | _ | _ | _ | _ | _ | _ | _ | _ | _ | _ | _ | _ | _ | _ | k
  all_goals first | rfl | omega
theorem in2 {k : Nat} (hk : k < 23) {cs : Cells} : dIn cs (.int (k : Int)) (.lst [.int 4, .int 5, .int 7, .int 9, .int 10, .int 11, .int 16, .int 19]) = some (.bl (decide (k = 4 ∨ k = 5 ∨ k = 7 ∨ k = 9 ∨ k = 10 ∨ k = 11 ∨ k = 16 ∨ k = 19))) := by
  rcases k with _ | _ | _ | _ | _ | _ | _ | _ | _ | _ | _ | _ | _ | _ | _ | _ | _ | _ | _ | _ | _ | _ | _ | k
  all_goals first | rfl | omega
theorem int_bl {cs : Cells} {b : Bool} {Q : D → Prop} : (∃ r, dInt cs [.bl b] = some r ∧ Q r) ↔ Q (.int (if b = true then 1 else 0)) := by
  cases b <;> exact ex_some
theorem bas_eq {k : Nat} : (100 : Int) + (if decide (12 < (k : Int)) = true then 1 else 0) + (if decide (18 < (k : Int)) = true then 1 else 0) + (if decide (19 < (k : Int)) = true then 1 else 0) = bas k := by
  unfold bas
  simp only [decide_eq_true_eq]
  repeat' split
  all_goals omega
def b_turn : XS :=
 (sSeq (sSet 6 (xLst (aCons (xVar 3) aNil)))
 (sSeq (sIf (bV (x2 dIn (xVar 5) (xLst (aCons (xC (.int 3)) (aCons (xC (.int 20)) (aCons (xC (.int 21)) aNil)))))) (sSet 6 (xLst (aCons (xVar 3) (aCons (xVar 4) aNil)))) sNx)
 (sSeq (sIf (bV (x2 dIn (xVar 5) (xLst (aCons (xC (.int 4)) (aCons (xC (.int 5)) (aCons (xC (.int 7)) (aCons (xC (.int 9)) (aCons (xC (.int 10)) (aCons (xC (.int 11)) (aCons (xC (.int 16)) (aCons (xC (.int 19)) aNil))))))))))) (sSet 6 (xLst (aCons (xVar 4) aNil))) sNx)
 (sSeq (sIf (bV (x2 dNe (xCall (kChk ([] : List Str).length F_law_told) (aCons (xVar 5) (aCons (xVar 3) (aCons (xVar 4) aNil))) aNil) (xVar 6))) (sRet (xC (.bl false))) sNx)
 (sSeq (sSet 7 (x2 dAdd (x2 dAdd (x2 dAdd (xC (.int 100)) (xN dInt (aCons (x2 dGt (xVar 5) (xC (.int 12))) aNil))) (xN dInt (aCons (x2 dGt (xVar 5) (xC (.int 18))) aNil))) (xN dInt (aCons (x2 dGt (xVar 5) (xC (.int 19))) aNil))))
 (sIf (bV (x2 dNe (xCall (kChk ([] : List Str).length F_law_kinds) (aCons (xVar 5) (aCons (xVar 3) (aCons (xVar 4) aNil))) aNil) (xLst (aCons (xVar 5) (aCons (xVar 7) aNil))))) (sRet (xC (.bl false))) sNx))))))
/-- one turn of the inner loop -/
theorem turn_ok {k : Nat} (hk : k < 23) {one : D} (ho : okD one = true) {t : Int} {cs : Cells} {P : Fl → Cells → Prop} {s0 s1 s2 s6 s7 : Sl}
    (q : ∀ s6 s7, P (.nx [s0, s1, s2, .val one, .val (.int t), .val (.int (k : Int)), s6, s7]) cs) : wpS (b_turn [s0, s1, s2, .val one, .val (.int t), .val (.int (k : Int)), s6, s7] cs) P := by
  unfold b_turn
  walk_at "w"
  rw [in1 hk, in2 hk]
  refine ⟨_, rfl, _, rfl, ?_⟩
  have ok := okD_due (k := k) (t := t) ho
  have ok2 : ∀ d ∈ [D.int (k : Int), D.int (bas k)], okD d = true := fun d hd => by
    rcases List.mem_cons.mp hd with rfl | hd
    · exact okD_int
    · rw [List.mem_singleton.mp hd]; exact okD_int
  by_cases a : k = 3 ∨ k = 20 ∨ k = 21
  · have b : ¬ (k = 4 ∨ k = 5 ∨ k = 7 ∨ k = 9 ∨ k = 10 ∨ k = 11 ∨ k = 16 ∨ k = 19) := by omega
    have e : due k one (.int t) = [one, .int t] := by unfold due; rw [if_pos a]
    rw [if_pos (decide_eq_true a)]
    refine ⟨_, rfl, _, rfl, ?_⟩
    rw [if_neg (by simpa using b)]
    refine told_wp hk ?_
    rw [e] at ok ⊢
    rw [ne_selfL ok]
    refine ⟨_, rfl, ?_⟩
    rw [if_neg Bool.false_ne_true]
    simp only [int_bl, x_addI]
    rw [bas_eq]
    refine kinds_wp hk ?_
    rw [ne_selfL ok2]
    refine ⟨_, rfl, ?_⟩
    rw [if_neg Bool.false_ne_true]
    exact q _ _
  · have e0 : due k one (.int t) = if k = 4 ∨ k = 5 ∨ k = 7 ∨ k = 9 ∨ k = 10 ∨ k = 11 ∨ k = 16 ∨ k = 19 then [.int t] else [one] := by unfold due; rw [if_neg a]
    rw [if_neg (by simpa using a)]
    refine ⟨_, rfl, _, rfl, ?_⟩
    by_cases b : k = 4 ∨ k = 5 ∨ k = 7 ∨ k = 9 ∨ k = 10 ∨ k = 11 ∨ k = 16 ∨ k = 19
    · have e : due k one (.int t) = [.int t] := by rw [e0, if_pos b]
      rw [if_pos (decide_eq_true b)]
      refine told_wp hk ?_
      rw [e] at ok ⊢
      rw [ne_selfL ok]
      refine ⟨_, rfl, ?_⟩
      rw [if_neg Bool.false_ne_true]
      simp only [int_bl, x_addI]
      rw [bas_eq]
      refine kinds_wp hk ?_
      rw [ne_selfL ok2]
      refine ⟨_, rfl, ?_⟩
      rw [if_neg Bool.false_ne_true]
      exact q _ _
    · have e : due k one (.int t) = [one] := by rw [e0, if_neg b]
      rw [if_neg (by simpa using b)]
      refine told_wp hk ?_
      rw [e] at ok ⊢
      rw [ne_selfL ok]
      refine ⟨_, rfl, ?_⟩
      rw [if_neg Bool.false_ne_true]
      simp only [int_bl, x_addI]
      rw [bas_eq]
      refine kinds_wp hk ?_
      rw [ne_selfL ok2]
      refine ⟨_, rfl, ?_⟩
      rw [if_neg Bool.false_ne_true]
      exact q _ _
theorem law_true (ns : List Int) (hn : ns.length ≤ 63) (cs : Cells) : ∃ cs', F_law [.wls (ns.map D.int)] [] cs = .ok (.bl true) cs' := by
  have h : wp (F_law [.wls (ns.map D.int)] []) cs (fun d _ => d = .bl true) fun _ _ => False := by
    show wp (runB b_law [.val (.wls (ns.map D.int)), .emp, .emp, .emp, .emp, .emp, .emp, .emp]) cs _ _
    unfold b_law b_law_1
    walk_at "w"
    generalize hj : (if (if (((ns.map D.int).length : Nat) : Int) < 5 then (((ns.map D.int).length : Nat) : Int) else 5) > 1 then (if (((ns.map D.int).length : Nat) : Int) < 5 then (((ns.map D.int).length : Nat) : Int) else 5) else 1) = j
    have hj2 : 1 ≤ j ∧ j ≤ 5 := by
      subst hj
      repeat' split
      all_goals omega
    refine ⟨by omega, ?_⟩
    refine for_inv (fun i l cs' => ∃ s1 s2 s3 s4 s5 s6 s7, l = [.val (.wls (ns.map D.int)), s1, s2, s3, s4, s5, s6, s7]) ⟨_, _, _, _, _, _, _, rfl⟩ ?_ ?_
    · rintro i d l cs1 hi ⟨s1, s2, s3, s4, s5, s6, s7, rfl⟩
      have hil : i < j.toNat := by
        have := (List.getElem?_eq_some_iff.mp hi).1
        simpa using this
      rw [List.getElem?_map, List.getElem?_range hil] at hi
      cases hi
      rw [e_draw, e_bag, e_of]
      walk_at "w"
      refine bag2_wp (by omega) fun cs2 hb2 _ _ => ?_
      refine of2_wp (n := 100) (hb2.mono (by decide)) (by simp) (by simp) fun i1 one cs3 h1 hb3 _ => ?_
      have ho : okD one = true := by
        have hm := List.mem_of_getElem? h1
        simp only [List.mem_cons, List.not_mem_nil, or_false] at hm
        rcases hm with rfl | rfl | rfl | rfl | rfl | rfl <;> decide +kernel
      rw [show ((10 : Int) ^ (Int.toNat 12)) = 1000000000000 from by decide]
      refine ⟨by decide, ?_⟩
      refine draw2_wp (n := 99) hb3 (by decide) (by decide) fun r cs4 r0 r1 hb4 _ => ?_
      try walk_at "w"
      refine ⟨by omega, ?_⟩
      refine for_inv (fun m l cs' => ∃ s1 s2 s5 s6 s7, l = [.val (.wls (ns.map D.int)), s1, s2, .val one, .val (.int (r - 5)), s5, s6, s7]) ⟨_, _, _, _, _, rfl⟩ ?_ ?_
      · rintro k d l cs5 hk ⟨s1, s2, s5, s6, s7, rfl⟩
        have hk2 : k < 23 := by
          have := (List.getElem?_eq_some_iff.mp hk).1
          simpa using this
        rw [List.getElem?_map, List.getElem?_range (by simpa using hk2)] at hk
        cases hk
        rw [s_turn]
        refine ⟨_, rfl, ?_⟩
        exact turn_ok hk2 ho fun s6 s7 => ⟨_, _, _, _, _, rfl⟩
      · rintro l cs5 ⟨s1, s2, s5, s6, s7, rfl⟩
        exact ⟨_, _, _, _, _, _, _, rfl⟩
    · rintro l cs1 ⟨s1, s2, s3, s4, s5, s6, s7, rfl⟩
      walk_at "w"
  obtain ⟨a, cs', e, rfl⟩ := of_wp h
  exact ⟨cs', e⟩
end F

namespace F
open PySem PySem.Spec PyProof.Rows L2 He E
theorem factsF {P : Program} {w : World} {K : PySem.W.Frag} {mg : Str → Option Value} {h : Heap} {fa : Addr} (X : K.In h) (G : h.Ns mainGlobals mg) (hfa : mg ("law" : Str) = some (.ref fa)) (c : SaysE exH dfs K) (base : Heap) : FnG P w K mg base 6 fa [] F_law := by
  have ba0 := c.fact
  have bb : ∀ (i : Nat) {b : Bool}, (bfs K)[i]? = some b → b = true := fun i b hb => List.all_eq_true.mp ba0 b (List.mem_of_getElem? hb)
  have T : Fx K mg freeN gloN ntsN xtsN := fxB_ok X G (bb 0 rfl)
  have TB : TbOk ⟨P, w, K, mg⟩ tb := tbB_ok X G (bb 1 rfl)
  have TE : TeOk ⟨P, w, K, mg⟩ te := teB_ok X G (bb 2 rfl)
  obtain ⟨fd0, Fd0⟩ := c.def_ 0 rfl
  have x_BadName : ExrG P w K mg base 1 "BadName" ["name"] := exrB_ok X G (bb 4 rfl) (o_BadNamex_initx Fd0) (Fd0.bindsN fun _ _ _ _ _ _ us hl => match us, hl with | [_, _], _ => rfl)
  obtain ⟨fd1, Fd1⟩ := c.def_ 1 rfl
  have x_Twice : ExrG P w K mg base 1 "Twice" ["name"] := exrB_ok X G (bb 5 rfl) (o_Twicex_initx Fd1) (Fd1.bindsN fun _ _ _ _ _ _ us hl => match us, hl with | [_, _], _ => rfl)
  obtain ⟨fd2, Fd2⟩ := c.def_ 2 rfl
  have x_BadValue : ExrG P w K mg base 1 "BadValue" ["value"] := exrB_ok X G (bb 6 rfl) (o_BadValuex_initx Fd2) (Fd2.bindsN fun _ _ _ _ _ _ us hl => match us, hl with | [_, _], _ => rfl)
  obtain ⟨fd3, Fd3⟩ := c.def_ 3 rfl
  have x_BadStep : ExrG P w K mg base 1 "BadStep" ["handler", "index"] := exrB_ok X G (bb 7 rfl) (o_BadStepx_initx Fd3) (Fd3.bindsN fun _ _ _ _ _ _ us hl => match us, hl with | [_, _, _], _ => rfl)
  obtain ⟨fd4, Fd4⟩ := c.def_ 4 rfl
  have x_BadErasing : ExrG P w K mg base 1 "BadErasing" ["index"] := exrB_ok X G (bb 8 rfl) (o_BadErasingx_initx Fd4) (Fd4.bindsN fun _ _ _ _ _ _ us hl => match us, hl with | [_, _], _ => rfl)
  obtain ⟨fd5, Fd5⟩ := c.def_ 5 rfl
  have x_BadLine : ExrG P w K mg base 1 "BadLine" ["index"] := exrB_ok X G (bb 9 rfl) (o_BadLinex_initx Fd5) (Fd5.bindsN fun _ _ _ _ _ _ us hl => match us, hl with | [_, _], _ => rfl)
  obtain ⟨fd6, Fd6⟩ := c.def_ 6 rfl
  have x_BadEvent : ExrG P w K mg base 1 "BadEvent" ["event"] := exrB_ok X G (bb 10 rfl) (o_BadEventx_initx Fd6) (Fd6.bindsN fun _ _ _ _ _ _ us hl => match us, hl with | [_, _], _ => rfl)
  obtain ⟨fd7, Fd7⟩ := c.def_ 7 rfl
  have x_BadPeople : ExrG P w K mg base 1 "BadPeople" ["many"] := exrB_ok X G (bb 11 rfl) (o_BadPeoplex_initx Fd7) (Fd7.bindsN fun _ _ _ _ _ _ us hl => match us, hl with | [_, _], _ => rfl)
  obtain ⟨fd8, Fd8⟩ := c.def_ 8 rfl
  have x_BadPattern : ExrG P w K mg base 1 "BadPattern" ["pattern"] := exrB_ok X G (bb 12 rfl) (o_BadPatternx_initx Fd8) (Fd8.bindsN fun _ _ _ _ _ _ us hl => match us, hl with | [_, _], _ => rfl)
  obtain ⟨fd9, Fd9⟩ := c.def_ 9 rfl
  have x_BadState : ExrG P w K mg base 1 "BadState" ["index"] := exrB_ok X G (bb 13 rfl) (o_BadStatex_initx Fd9) (Fd9.bindsN fun _ _ _ _ _ _ us hl => match us, hl with | [_, _], _ => rfl)
  obtain ⟨fd10, Fd10⟩ := c.def_ 10 rfl
  have x_BadRuns : ExrG P w K mg base 1 "BadRuns" ["runs"] := exrB_ok X G (bb 14 rfl) (o_BadRunsx_initx Fd10) (Fd10.bindsN fun _ _ _ _ _ _ us hl => match us, hl with | [_, _], _ => rfl)
  obtain ⟨fd11, Fd11⟩ := c.def_ 11 rfl
  have x_BadText : ExrG P w K mg base 1 "BadText" ["line"] := exrB_ok X G (bb 15 rfl) (o_BadTextx_initx Fd11) (Fd11.bindsN fun _ _ _ _ _ _ us hl => match us, hl with | [_, _], _ => rfl)
  obtain ⟨fd12, Fd12⟩ := c.def_ 12 rfl
  have x_BadCommand : ExrG P w K mg base 1 "BadCommand" ["command"] := exrB_ok X G (bb 16 rfl) (o_BadCommandx_initx Fd12) (Fd12.bindsN fun _ _ _ _ _ _ us hl => match us, hl with | [_, _], _ => rfl)
  obtain ⟨fd13, Fd13⟩ := c.def_ 13 rfl
  have x_NoStore : ExrG P w K mg base 1 "NoStore" ["store"] := exrB_ok X G (bb 17 rfl) (o_NoStorex_initx Fd13) (Fd13.bindsN fun _ _ _ _ _ _ us hl => match us, hl with | [_, _], _ => rfl)
  obtain ⟨fd14, Fd14⟩ := c.def_ 14 rfl
  have x_NoPart : ExrG P w K mg base 1 "NoPart" ["name"] := exrB_ok X G (bb 18 rfl) (o_NoPartx_initx Fd14) (Fd14.bindsN fun _ _ _ _ _ _ us hl => match us, hl with | [_, _], _ => rfl)
  obtain ⟨fd15, Fd15⟩ := c.def_ 15 rfl
  have x_NoHandler : ExrG P w K mg base 1 "NoHandler" ["handler"] := exrB_ok X G (bb 19 rfl) (o_NoHandlerx_initx Fd15) (Fd15.bindsN fun _ _ _ _ _ _ us hl => match us, hl with | [_, _], _ => rfl)
  obtain ⟨fd16, Fd16⟩ := c.def_ 16 rfl
  have x_NoRow : ExrG P w K mg base 1 "NoRow" ["row"] := exrB_ok X G (bb 20 rfl) (o_NoRowx_initx Fd16) (Fd16.bindsN fun _ _ _ _ _ _ us hl => match us, hl with | [_, _], _ => rfl)
  obtain ⟨fd17, Fd17⟩ := c.def_ 17 rfl
  have x_NotThere : ExrG P w K mg base 1 "NotThere" ["person"] := exrB_ok X G (bb 21 rfl) (o_NotTherex_initx Fd17) (Fd17.bindsN fun _ _ _ _ _ _ us hl => match us, hl with | [_, _], _ => rfl)
  obtain ⟨fd18, Fd18⟩ := c.def_ 18 rfl
  have x_NotReached : ExrG P w K mg base 1 "NotReached" ["state"] := exrB_ok X G (bb 22 rfl) (o_NotReachedx_initx Fd18) (Fd18.bindsN fun _ _ _ _ _ _ us hl => match us, hl with | [_, _], _ => rfl)
  obtain ⟨fd19, Fd19⟩ := c.def_ 19 rfl
  have x_TooMany : ExrG P w K mg base 1 "TooMany" ["limit"] := exrB_ok X G (bb 23 rfl) (o_TooManyx_initx Fd19) (Fd19.bindsN fun _ _ _ _ _ _ us hl => match us, hl with | [_, _], _ => rfl)
  obtain ⟨fd20, Fd20⟩ := c.def_ 20 rfl
  have x_NotAllowed : ExrG P w K mg base 1 "NotAllowed" ["store", "action"] := exrB_ok X G (bb 24 rfl) (o_NotAllowedx_initx Fd20) (Fd20.bindsN fun _ _ _ _ _ _ us hl => match us, hl with | [_, _, _], _ => rfl)
  obtain ⟨fd21, Fd21⟩ := c.def_ 21 rfl
  have x_Refused : ExrG P w K mg base 1 "Refused" ["handler", "index"] := exrB_ok X G (bb 25 rfl) (o_Refusedx_initx Fd21) (Fd21.bindsN fun _ _ _ _ _ _ us hl => match us, hl with | [_, _, _], _ => rfl)
  obtain ⟨fd22, Fd22⟩ := c.def_ 22 rfl
  have x_Erased : ExrG P w K mg base 1 "Erased" ["person"] := exrB_ok X G (bb 26 rfl) (o_Erasedx_initx Fd22) (Fd22.bindsN fun _ _ _ _ _ _ us hl => match us, hl with | [_, _], _ => rfl)
  obtain ⟨fd23, Fd23⟩ := c.def_ 23 rfl
  have f_law_bag : FnG P w K mg base 1 _ [] F_law_bag := fnG_of Fd23 sc_law_bag (shp_pos (Fd23.bindsN fun _ _ _ _ _ _ us hl => match us, hl with | [_, _], _ => rfl) .nil (fun _ => .nil)) (fun cdv A outer s H Er hr => j_law_bag T TB TE  cdv A outer s H Er hr)
  have c_law_bag : CalG P w K mg base 1 "_law_bag" [] F_law_bag := ⟨_, f_law_bag, T.gl 0 rfl, Fd23.kp⟩
  obtain ⟨fd24, Fd24⟩ := c.def_ 24 rfl
  have f_law_draw : FnG P w K mg base 1 _ [] F_law_draw := fnG_of Fd24 sc_law_draw (shp_pos (Fd24.bindsN fun _ _ _ _ _ _ us hl => match us, hl with | [_, _], _ => rfl) .nil (fun _ => .nil)) (fun cdv A outer s H Er hr => j_law_draw T TB TE  cdv A outer s H Er hr)
  have c_law_draw : CalG P w K mg base 1 "_law_draw" [] F_law_draw := ⟨_, f_law_draw, T.gl 1 rfl, Fd24.kp⟩
  obtain ⟨fd25, Fd25⟩ := c.def_ 25 rfl
  have f_law_of : FnG P w K mg base 2 _ [] F_law_of := fnG_of Fd25 sc_law_of (shp_pos (Fd25.bindsN fun _ _ _ _ _ _ us hl => match us, hl with | [_, _], _ => rfl) .nil (fun _ => .nil)) (fun cdv A outer s H Er hr => j_law_of T TB TE c_law_draw cdv A outer s H Er hr)
  have c_law_of : CalG P w K mg base 2 "_law_of" [] F_law_of := ⟨_, f_law_of, T.gl 2 rfl, Fd25.kp⟩
  obtain ⟨fd26, Fd26⟩ := c.def_ 26 rfl
  have f_law_raised : FnG P w K mg base 3 _ [] F_law_raised := fnG_of Fd26 sc_law_raised (shp_pos (Fd26.bindsN fun _ _ _ _ _ _ us hl => match us, hl with | [_, _, _], _ => rfl) .nil (fun _ => .nil)) (fun cdv A outer s H Er hr => j_law_raised T TB TE x_BadName x_Twice x_BadValue x_BadStep x_BadErasing x_BadLine x_BadEvent x_BadPeople x_BadPattern x_BadState x_BadRuns x_BadText x_BadCommand cdv A outer s H Er hr)
  have c_law_raised : CalG P w K mg base 3 "_law_raised" [] F_law_raised := ⟨_, f_law_raised, T.gl 3 rfl, Fd26.kp⟩
  obtain ⟨fd27, Fd27⟩ := c.def_ 27 rfl
  have f_law_raised_later : FnG P w K mg base 3 _ [] F_law_raised_later := fnG_of Fd27 sc_law_raised_later (shp_pos (Fd27.bindsN fun _ _ _ _ _ _ us hl => match us, hl with | [_, _, _], _ => rfl) .nil (fun _ => .nil)) (fun cdv A outer s H Er hr => j_law_raised_later T TB TE x_NoStore x_NoPart x_NoHandler x_NoRow x_NotThere x_NotReached x_TooMany x_NotAllowed x_Refused x_Erased cdv A outer s H Er hr)
  have c_law_raised_later : CalG P w K mg base 3 "_law_raised_later" [] F_law_raised_later := ⟨_, f_law_raised_later, T.gl 4 rfl, Fd27.kp⟩
  obtain ⟨fd28, Fd28⟩ := c.def_ 28 rfl
  have f_law_deed : FnG P w K mg base 4 _ [] F_law_deed := fnG_of Fd28 sc_law_deed (shp_pos (Fd28.bindsN fun _ _ _ _ _ _ us hl => match us, hl with | [_, _, _], _ => rfl) .nil (fun _ => .nil)) (fun cdv A outer s H Er hr => j_law_deed T TB TE c_law_raised c_law_raised_later cdv A outer s H Er hr)
  have c_law_deed : CalG P w K mg base 4 "_law_deed" [] F_law_deed := ⟨_, f_law_deed, T.gl 5 rfl, Fd28.kp⟩
  obtain ⟨fd29, Fd29⟩ := c.def_ 29 rfl
  have f_law_told : FnG P w K mg base 5 _ [] F_law_told := fnG_of Fd29 sc_law_told (shp_pos (Fd29.bindsN fun _ _ _ _ _ _ us hl => match us, hl with | [_, _, _], _ => rfl) .nil (fun _ => .nil)) (fun cdv A outer s H Er hr => j_law_told T TB TE c_law_deed cdv A outer s H Er hr)
  have c_law_told : CalG P w K mg base 5 "_law_told" [] F_law_told := ⟨_, f_law_told, T.gl 6 rfl, Fd29.kp⟩
  obtain ⟨fd30, Fd30⟩ := c.def_ 30 rfl
  have f_law_kinds : FnG P w K mg base 5 _ [] F_law_kinds := fnG_of Fd30 sc_law_kinds (shp_pos (Fd30.bindsN fun _ _ _ _ _ _ us hl => match us, hl with | [_, _, _], _ => rfl) .nil (fun _ => .nil)) (fun cdv A outer s H Er hr => j_law_kinds T TB TE c_law_deed cdv A outer s H Er hr)
  have c_law_kinds : CalG P w K mg base 5 "_law_kinds" [] F_law_kinds := ⟨_, f_law_kinds, T.gl 7 rfl, Fd30.kp⟩
  obtain ⟨fd31, Fd31⟩ := c.def_ 31 rfl
  have f_law : FnG P w K mg base 6 _ [] F_law := fnG_of Fd31 sc_law (shp_pos (Fd31.bindsN fun _ _ _ _ _ _ us hl => match us, hl with | [_], _ => rfl) .nil (fun _ => .nil)) (fun cdv A outer s H Er hr => j_law T TB TE c_law_bag c_law_of c_law_draw c_law_told c_law_kinds cdv A outer s H Er hr)
  have c_law : CalG P w K mg base 6 "law" [] F_law := ⟨_, f_law, T.gl 8 rfl, Fd31.kp⟩
  have e := hfa.symm.trans (T.gl 8 (x := "law") rfl)
  cases e
  exact f_law
end F

open PySem PySem.W PySem.Calls PyProof.Rows
theorem PySem.Challenge.cw_erasedtrails_k33_errors_holds : PySem.Challenge.rw_erasedtrails_k33_errors.Holds := by
  w_on; o_law
  refine HandSHeadRun.head_any (r := OpenLaw.row PySem.Challenge.rw_erasedtrails_k33_errors) (q := view (OpenLaw.row PySem.Challenge.rw_erasedtrails_k33_errors).prog [33]) (H := F.hkF) (ob := F.obF) (M := 20000) (loose := F.looseN) (d := HandSHeadRun.topDef (OpenLaw.row PySem.Challenge.rw_erasedtrails_k33_errors).prog 33) (kwd := []) F.obF_eq
    (by kernel_rfl) (fun s => by kernel_rfl) F.runF (by kernel_rfl) (by kernel_rfl) (by kernel_rfl) (by rfl) (by first | assumption | decide +kernel) (by decide +kernel) ⟨rfl, rfl, rfl, rfl, rfl, by decide +kernel⟩ ?hw ?hc
  case hw => w_witness2
  case hc =>
    refine F.walk_F (l := PySem.Challenge.rw_erasedtrails_k33_errors) (n := 63) (k := 6) (Fl := F.F_law) rfl (by decide) (by kernel_rfl) ⟨⟨rfl, by decide, by decide⟩, rfl⟩ ?F F.law_true
    intro w mg fa h Y G hmg0
    obtain ⟨K, KX, c⟩ := Y
    have hmg : mg ("law" : PySem.Str) = some (.ref fa) := by
      have e : (HandSHeadRun.topDef (OpenLaw.row PySem.Challenge.rw_erasedtrails_k33_errors).prog 33).name = ("law" : PySem.Str) := by kernel_rfl
      rw [← e]
      exact hmg0
    exact ⟨K, KX, fun base _ _ => F.factsF KX G hmg c base⟩

