import PyProof.Rows.All
import Wide.All
import OpenK.AllK
import Wide.FinOn
import KE.KStateDown
import KE.GoesEnum
import Lean
import HandS.Base
import HandS.Call
import HandS.List
import HandS.Comp
import HandS.Ends
import HandS.Dict
import HandS.Iter
import HandS.Text
import HandS.More
import HandS.Exc
import HandS.ExcOwn
import HandS.TryOnly
import HandS.TryMany
import HandS.IsInst
import HandS.Words
import HandS.WordsList
import HandS.WordsExc
import HandS.Wide
import HandS.WideBits
import HandS.Defaults
import HandS.Head0
import HandS.Head1
import HandS.Head2
import HandS.HeadEnd
import HandS.HeadHook1
import HandS.HeadHook2
import HandS.RaiseMore
import HandS.TupAny
import HandS.Style
import HandS.Property
import HandS.Conv
import HandS.Walk
import HandS.Replace
import HandS.SortInts
import HandS.TupMul
import HandS.Zip
import PySem.Challenge.RW_wovenkeys_k07_parting_and_precedence
set_option Elab.async false
set_option linter.all false
set_option maxRecDepth 100000
set_option maxHeartbeats 4000000
/-! ## Part 1: rules in short form, over the hand layer -/
namespace WK
open PySem PySem.Spec PyProof.Rows L2

/-! ### a def of the text that keeps a promise, found by its name -/
structure Ok (P : Program) (w : World) (K : PySem.W.Frag) (mg : Str → Option Value) (base : Heap) (C : CXT) (k : Nat) (x : Str) (ps : List Str) (sp : Sp) : Prop where
  ex : ∃ fd, FnOk P w K mg base C k (He.ga K x) fd ps sp ∧ Binds K fd ps []
  kp : PySem.W.keepIn K (.ref (He.ga K x)) = true
  at_ : mg x = some (.ref (He.ga K x))
def tCal (sp : Sp) (E : XK) (t : TA) : TE := fun σ H Q => t σ H fun vs H1 => sp vs H1 Q E
section
variable {X : Cx} {C : CXT} {k j : Nat} {ps : List Str} {sp : Sp} {E : XK} {x : Str} {p pos : Pos} {e : Expr} {es : List Expr} {t : TA}
theorem tCal_eq : tCall sp [] E t = tCal sp E t := by
  funext σ H Q
  show (t σ H fun vs H1 => sp (vs ++ []) H1 Q E) = t σ H fun vs H1 => sp vs H1 Q E
  congr 1
  funext vs H1
  rw [List.append_nil]
theorem calX (O : Ok X.prog X.w X.K X.mg X.base C k x ps sp) (hr : Room j X.A) (hx : Passes C X E) (ha : PA X (e :: es) t) (hj : k ≤ j := by first | decide | omega) (hg : Gl X x := by rfl) (hdb : (x == ("__debug__" : Str)) = false := by decide)
    (he : starEach (e :: es) X.env = (false, eval e X.env) :: starEach es X.env := by rfl) (hpl : (backTo pos (starEach es X.env)).any (·.1) = false := by rfl) : PE X (.Call (.Name x p) (e :: es) [] pos) (tCal sp E t) := by
  obtain ⟨fd, F, B⟩ := O.ex
  rw [← tCal_eq]
  exact pe_call F (hr.mono hj) hg O.at_ O.kp B .nil hx ha hdb he hpl
theorem cal (O : Ok X.prog X.w X.K X.mg X.base CX0 k x ps sp) (hr : Room j X.A) (ha : PA X (e :: es) t) (hj : k ≤ j := by first | decide | omega) (hg : Gl X x := by rfl) (hdb : (x == ("__debug__" : Str)) = false := by decide)
    (he : starEach (e :: es) X.env = (false, eval e X.env) :: starEach es X.env := by rfl) (hpl : (backTo pos (starEach es X.env)).any (·.1) = false := by rfl) : PE X (.Call (.Name x p) (e :: es) [] pos) (tCal sp E0 t) :=
  calX O hr pass0 ha hj hg hdb he hpl
theorem cal0 (O : Ok X.prog X.w X.K X.mg X.base CX0 k x ps sp) (hr : Room j X.A) (hj : k ≤ j := by first | decide | omega) (hg : Gl X x := by rfl) (hdb : (x == ("__debug__" : Str)) = false := by decide) : PE X (.Call (.Name x p) [] [] pos) (tCal sp E0 tNil) := by
  obtain ⟨fd, F, B⟩ := O.ex
  rw [← tCal_eq]
  exact pe_call0 F (hr.mono hj) hg O.at_ O.kp B .nil pass0 hdb
end
/-- a def keeps a promise: by its body -/
theorem Ok.mk' {P : Program} {w : World} {K : PySem.W.Frag} {mg : Str → Option Value} {base : Heap} {C : CXT} {k : Nat} {x : Str} {N ps : List Str} {st : Stmt} {sp : Sp}
    (F : ∃ fd, FunD K x x (defArgs st) (defBody st) (defScope st) [] [] (He.ga K x) fd) (g : mg x = some (.ref (He.ga K x))) (S : FnScope N ps (defScope st)) (len : ∀ vs H Q E, sp vs H Q E → vs.length = ps.length)
    (hb : ∀ (kV doc pm : Value) (an : Option Addr) (cdv ct : Value) (us : List Value), us.length = ps.length → bindArgs (PySem.W.fnOf x x (defArgs st) (defBody st) (defScope st) .none kV doc pm an cdv ct) ⟨us, []⟩ = pure (ps.zip us))
    (hbody : ∀ (f : Addr) (cdv : Value) (A : Around) (outer : List Env) (s : Shared) (H : Hp) (vs : List V) (Q : VK) (E : XK), Room k (A.deeper (envOfC x (defScope st) s.heap.objs.size f cdv)) → sp vs H Q E →
      ∃ t, PSs (cxOf C P w K mg base N x (defScope st) f cdv A outer s H E) (defBody st) t ∧ t { nx := fun _ H' => Q .non H', rt := Q } (start N vs) H) : Ok P w K mg base C (k + 1) x ps sp := by
  obtain ⟨fd, F⟩ := F
  exact ⟨⟨fd, F.ok S len fun cdv A outer s H vs Q E => hbody _ cdv A outer s H vs Q E, F.bindsN hb⟩, F.kp, g⟩
/-- nothing leaves it -/
theorem Ok.mk0 {P : Program} {w : World} {K : PySem.W.Frag} {mg : Str → Option Value} {base : Heap} {k : Nat} {x : Str} {N ps : List Str} {st : Stmt} {sp : Sp}
    (F : ∃ fd, FunD K x x (defArgs st) (defBody st) (defScope st) [] [] (He.ga K x) fd) (g : mg x = some (.ref (He.ga K x))) (S : FnScope N ps (defScope st)) (len : ∀ vs H Q E, sp vs H Q E → vs.length = ps.length)
    (hb : ∀ (kV doc pm : Value) (an : Option Addr) (cdv ct : Value) (us : List Value), us.length = ps.length → bindArgs (PySem.W.fnOf x x (defArgs st) (defBody st) (defScope st) .none kV doc pm an cdv ct) ⟨us, []⟩ = pure (ps.zip us))
    (hbody : ∀ (f : Addr) (cdv : Value) (A : Around) (outer : List Env) (s : Shared) (H : Hp) (vs : List V) (Q : VK) (E : XK), Room k (A.deeper (envOfC x (defScope st) s.heap.objs.size f cdv)) → sp vs H Q E →
      ∃ t, PSs (cxOf CX0 P w K mg base N x (defScope st) f cdv A outer s H E).nox (defBody st) t ∧ t { nx := fun _ H' => Q .non H', rt := Q } (start N vs) H) : Ok P w K mg base CX0 (k + 1) x ps sp :=
  Ok.mk' F g S len hb fun f cdv A outer s H vs Q E hr h => by
    obtain ⟨t, h1, h2⟩ := hbody f cdv A outer s H vs Q E hr h
    exact ⟨t, h1.nox, h2⟩

/-! ### rules with the written part told apart -/
section
variable {X : Cx}
theorem ixL (K : PySem.W.Frag) (h : X.K = K := by rfl) : IxR X (rIxL K) := by
  subst h
  exact ix_list
theorem ixT (K : PySem.W.Frag) (h : X.K = K := by rfl) : IxR X (rIxT K) := by
  subst h
  exact ix_tup
theorem piL (K : PySem.W.Frag) {tg l : Expr} {tl : TE} (hl : PE X l tl) (h : X.K = K := by rfl) : PI X tg l (iList K tl) := by
  subst h
  exact pi_list hl
theorem piT (K : PySem.W.Frag) {tg l : Expr} {tl : TE} (hl : PE X l tl) (h : X.K = K := by rfl) : PI X tg l (iTup K tl) := by
  subst h
  exact pi_tup hl
def rLenU (K : PySem.W.Frag) : List V → Hp → VK → Prop := fun xs H Q => ∃ x n, xs = [x] ∧ LenV K x H n ∧ Q (.int n) H
theorem lenU (K : PySem.W.Frag) (h : X.K = K := by rfl) : CallR X (.builtin "len") (rLenU K) := by
  subst h
  exact call_len
theorem sumL (K : PySem.W.Frag) (hc : X.calm = true := by rfl) (h : X.K = K := by rfl) : CallR X (.builtin "sum") (rSum K) := by
  subst h
  exact cr_sum hc
theorem maxL (K : PySem.W.Frag) (hc : X.calm = true := by rfl) (h : X.K = K := by rfl) : CallR X (.builtin "max") (rMax K) := by
  subst h
  exact cr_max hc
theorem allL (K : PySem.W.Frag) (hc : X.calm = true := by rfl) (h : X.K = K := by rfl) : CallR X (.builtin "all") (rAll K) := by
  subst h
  exact cr_all hc
theorem anyL (K : PySem.W.Frag) (hc : X.calm = true := by rfl) (h : X.K = K := by rfl) : CallR X (.builtin "any") (rAny K) := by
  subst h
  exact cr_any hc
theorem max2 (hc : X.calm = true := by rfl) : CallR X (.builtin "max") (fun xs H Q => ∃ i j, xs = [.int i, .int j] ∧ Q (.int (if j > i then j else i)) H) := call_max2 hc
theorem min2 (hc : X.calm = true := by rfl) : CallR X (.builtin "min") (fun xs H Q => ∃ i j, xs = [.int i, .int j] ∧ Q (.int (if j < i then j else i)) H) := call_min2 hc
theorem eqD (K : PySem.W.Frag) {j : Nat} (hr : Room j X.A) (h : X.K = K := by rfl) : OpR X (compareOp .Eq) (rEqD K) := by
  subst h
  exact op_eqD hr.units
theorem neD (K : PySem.W.Frag) {j : Nat} (hr : Room j X.A) (h : X.K = K := by rfl) : OpR X (compareOp .NotEq) (rNeD K) := by
  subst h
  exact op_neD hr.units
theorem isi (K : PySem.W.Frag) (h : X.K = K := by rfl) : CallR X (.builtin "isinstance") (rIsi K) := by
  subst h
  exact call_isi
theorem isiT (K : PySem.W.Frag) (h : X.K = K := by rfl) : CallR X (.builtin "isinstance") (rIsiT K) := by
  subst h
  exact call_isiT
/-- the class of a built-in kind, as a value -/
theorem tyInt (hm : X.mg "int" = none) (hg : Gl X "int" := by rfl) {pos : Pos} : PE X (.Name "int" pos) (tC (.ty "int")) := pe_bltn (u := .type "int") hg hm (by decide +kernel) rfl
end
/-! ### ints of any size -/
def CPowW (i j : Int) : Prop := 0 ≤ j ∧ (Builtin.Int.intBits i : Int) * j ≤ 2 ^ 27
section
variable {X : Cx}
theorem op_powW : OpR X (binaryOp .Pow) (rI CPowW fun i j => .int (i ^ j.toNat)) := opI fun _ _ _ _ _ _ _ hc q => pow_int hc.1 hc.2 q
/-- a written power -/
theorem pe_cpow {i j v : Int} {a b : Nat} {p q pos : Pos} (hv : i ^ j.toNat = v) (hj : 0 ≤ j ∧ j ≤ 1000000 := by decide) (hi : i.natAbs < 2 ^ 64 := by decide) : PE X (.BinOp (.Constant (.int i) a p) .Pow (.Constant (.int j) b q) pos) (tC (.int v)) := by
  subst hv
  have h := pe_op (X := X) (pos := pos) op_pow (pe_int (i := i) (j := a) (pos := p)) (pe_int (i := j) (j := b) (pos := q))
  exact ⟨fun pins s σ H Q I hq => h.run pins s σ H Q I ⟨i, j, rfl, rfl, ⟨hj.1, hj.2, hi⟩, hq⟩⟩
end
theorem powW_ok {i : Int} {n : Nat} {k : Nat} (h : i.natAbs < 2 ^ n) (hk : n * k ≤ 134217728) : CPowW i (k : Int) := by
  have b := PyProof.Rows.intBits_le h
  refine ⟨Int.natCast_nonneg _, ?_⟩
  have e : (2 : Int) ^ 27 = 134217728 := by decide
  rw [e]
  have h1 : Builtin.Int.intBits i * k ≤ n * k := Nat.mul_le_mul_right _ b
  have h2 : ((Builtin.Int.intBits i : Nat) : Int) * (k : Int) = ((Builtin.Int.intBits i * k : Nat) : Int) := (Int.natCast_mul _ _).symm
  rw [h2]
  omega
end WK
/-! ### the module's names, own errors -/
namespace WK
open PySem PySem.Spec PyProof.Rows L2
section
variable {X : Cx}
theorem pe_gint {x : Str} {i : Int} {pos : Pos} (h : ∃ t, X.mg x = some (.int i t)) (hg : Gl X x := by rfl) (hd : (x == ("__debug__" : Str)) = false := by decide) : PE X (.Name x pos) (tC (.int i)) := by
  obtain ⟨t, e⟩ := h
  exact pe_glob hg e ⟨t, rfl⟩ hd
theorem pe_gstr {x z : Str} {pos : Pos} (h : ∃ t, X.mg x = some (.str z t)) (hg : Gl X x := by rfl) (hd : (x == ("__debug__" : Str)) = false := by decide) : PE X (.Name x pos) (tC (.str z)) := by
  obtain ⟨t, e⟩ := h
  exact pe_glob hg e ⟨t, rfl⟩ hd
end
/-- an own error class over ValueError, without an own __init__ -/
structure Xc (K : PySem.W.Frag) (mg : Str → Option Value) (x : Str) : Prop where
  ex : PySem.W.excIn K (He.ga K x) He.veBase "ValueError.__new__" = true
  g : mg x = some (.ref (He.ga K x))
  kp : PySem.W.keepIn K (.ref (He.ga K x)) = true
  sub : PySem.W.subIn K (.ref (He.ga K x)) (.type "BaseException") = some true
  ty : PySem.W.typeIn K (.ref (He.ga K x)) = some (.type "type")
theorem Xc.of {K : PySem.W.Frag} {h : Heap} {mg : Str → Option Value} (X : K.In h) (G : h.Ns mainGlobals mg) {x : Str} (a : (He.Fa.glo x).ok K = true) (b : (He.Fa.exc x).ok K = true) : Xc K mg x := by
  obtain ⟨b1, b2, b3, b4⟩ := He.exc_ok b
  exact ⟨b1, He.glo_ok X G a, b2, b3, b4⟩
def tEx (C : Value) : L2.St → Hp → XK → Prop := fun _ H Q => Q C none H
theorem Xc.pmk {X : Cx} {K : PySem.W.Frag} {x m : Str} {j : Nat} {p p2 pos : Pos} (T : Xc K X.mg x) (hg : Gl X x) (hK : X.K = K := by rfl) (hdb : (x == ("__debug__" : Str)) = false := by decide) :
    PMk X (.Call (.Name x p) [.Constant (.str m) j p2] [] pos) (tEx (.ref (He.ga K x))) := by
  subst hK
  exact pmk_own PySem.F.excBase_ValueError T.ex T.g T.kp (raises_own T.sub T.ty) hg hdb
/-- a test that is true leaves what it leaves, a false one goes on -/
theorem if_t {c : Bool} {A B : Prop} (h : c = true) (a : A) : if c = true then A else B := by
  rw [if_pos h]
  exact a
theorem if_f {c : Bool} {A B : Prop} (h : c = false) (b : B) : if c = true then A else B := by
  rw [h, if_neg Bool.false_ne_true]
  exact b
theorem if_c {c : Bool} {A B : Prop} (a : c = true → A) (b : c = false → B) : if c = true then A else B := by
  cases c with
  | true => exact if_t rfl (a rfl)
  | false => exact if_f rfl (b rfl)
/-- by a proposition -/
theorem if_d {p : Prop} [Decidable p] {A B : Prop} (a : p → A) (b : ¬ p → B) : if decide p = true then A else B := by
  by_cases h : p
  · exact if_t (decide_eq_true h) (a h)
  · exact if_f (decide_eq_false h) (b h)
theorem if_nd {p : Prop} [Decidable p] {A B : Prop} (a : ¬ p → A) (b : p → B) : if (!decide p) = true then A else B := by
  by_cases h : p
  · exact if_f (by rw [decide_eq_true h]; rfl) (b h)
  · exact if_t (by rw [decide_eq_false h]; rfl) (a h)
end WK

namespace WK
open PySem PySem.Spec PyProof.Rows L2
/-! ### int() of an int, of a truth -/
def rIntI : List V → Hp → VK → Prop := fun xs H Q => ∃ i, xs = [.int i] ∧ Q (.int i) H
def rIntB : List V → Hp → VK → Prop := fun xs H Q => ∃ k, xs = [.bl k] ∧ Q (.int (if k = true then 1 else 0)) H
section
variable {X : Cx}
theorem intI : CallR X (.type "int") rIntI := fun pins s σ H xs us Q I r h => call_int1 pins s σ H xs us Q I r (.inl h)
theorem intB : CallR X (.type "int") rIntB := fun pins s σ H xs us Q I r h => call_int1 pins s σ H xs us Q I r (.inr h)
end
end WK
namespace WK
open PySem PySem.Spec PyProof.Rows L2
/-! ### isinstance -/
theorem isi_of {K : PySem.W.Frag} {H : Hp} {x : V} {t : Value} {n : String} {b : Bool} {R : Bool → Prop} (ht : TyX K H x t) (hk : PySem.W.kitOne K t (.type n) = some b) (r : R b) :
    ∃ t u, ClsV (.ty n) u ∧ TyX K H x t ∧ ∃ b, PySem.W.kitOne K t u = some b ∧ R b := ⟨t, _, .ty n, ht, b, hk, r⟩
theorem isi_own {K : PySem.W.Frag} {H : Hp} {x : V} {t : Value} {C : Addr} {b : Bool} {R : Bool → Prop} (ht : TyX K H x t) (hk : PySem.W.kitOne K t (.ref C) = some b) (r : R b) :
    ∃ t u, ClsV (.ref C) u ∧ TyX K H x t ∧ ∃ b, PySem.W.kitOne K t u = some b ∧ R b := ⟨t, _, .own C, ht, b, hk, r⟩
theorem isi_tt {K : PySem.W.Frag} {H : Hp} {t : Addr} {xs : List V} {R : Bool → Prop} (ht : H t = some (.tup xs)) (r : R true) :
    ∃ t', ∃ u, ClsV (.ty "tuple") u ∧ TyX K H (.ref t) t' ∧ ∃ b, PySem.W.kitOne K t' u = some b ∧ R b := isi_of (.base (.tup ht)) rfl r
theorem isi_ll {K : PySem.W.Frag} {H : Hp} {t : Addr} {xs : List V} {R : Bool → Prop} (ht : H t = some (.lst xs)) (r : R true) :
    ∃ t', ∃ u, ClsV (.ty "list") u ∧ TyX K H (.ref t) t' ∧ ∃ b, PySem.W.kitOne K t' u = some b ∧ R b := isi_of (.base (.lst ht)) rfl r
section
variable {K : PySem.W.Frag} {H : Hp} {n : String} {R : Bool → Prop}
theorem isi_int {i : Int} : (∃ t u, ClsV (.ty n) u ∧ TyX K H (.int i) t ∧ ∃ b, PySem.W.kitOne K t u = some b ∧ R b) = ∃ b, PySem.W.kitOne K (.type "int") (.type n) = some b ∧ R b := by
  apply propext
  constructor
  · rintro ⟨t, u, c, h, b, k, r⟩
    cases c
    cases h with | base h => cases h; exact ⟨b, k, r⟩
  · rintro ⟨b, k, r⟩
    exact isi_of (.base (.int i)) k r
theorem isi_str {i : Str} : (∃ t u, ClsV (.ty n) u ∧ TyX K H (.str i) t ∧ ∃ b, PySem.W.kitOne K t u = some b ∧ R b) = ∃ b, PySem.W.kitOne K (.type "str") (.type n) = some b ∧ R b := by
  apply propext
  constructor
  · rintro ⟨t, u, c, h, b, k, r⟩
    cases c
    cases h with | base h => cases h; exact ⟨b, k, r⟩
  · rintro ⟨b, k, r⟩
    exact isi_of (.base (.str i)) k r
theorem isi_bl {i : Bool} : (∃ t u, ClsV (.ty n) u ∧ TyX K H (.bl i) t ∧ ∃ b, PySem.W.kitOne K t u = some b ∧ R b) = ∃ b, PySem.W.kitOne K (.type "bool") (.type n) = some b ∧ R b := by
  apply propext
  constructor
  · rintro ⟨t, u, c, h, b, k, r⟩
    cases c
    cases h with | base h => cases h; exact ⟨b, k, r⟩
  · rintro ⟨b, k, r⟩
    exact isi_of (.base (.bl i)) k r
theorem isi_non : (∃ t u, ClsV (.ty n) u ∧ TyX K H .non t ∧ ∃ b, PySem.W.kitOne K t u = some b ∧ R b) = ∃ b, PySem.W.kitOne K (.type "NoneType") (.type n) = some b ∧ R b := by
  apply propext
  constructor
  · rintro ⟨t, u, c, h, b, k, r⟩
    cases c
    cases h with | base h => cases h; exact ⟨b, k, r⟩
  · rintro ⟨b, k, r⟩
    exact isi_of (.base .non) k r
theorem kit_ii : PySem.W.kitOne K (.type "int") (.type "int") = some true := rfl
theorem kit_ss : PySem.W.kitOne K (.type "str") (.type "str") = some true := rfl
theorem kit_bb : PySem.W.kitOne K (.type "bool") (.type "bool") = some true := rfl
theorem kit_ib : PySem.W.kitOne K (.type "int") (.type "bool") = some false := by kernel_rfl
theorem kit_is : PySem.W.kitOne K (.type "int") (.type "str") = some false := by kernel_rfl
theorem kit_it : PySem.W.kitOne K (.type "int") (.type "tuple") = some false := by kernel_rfl
theorem kit_il : PySem.W.kitOne K (.type "int") (.type "list") = some false := by kernel_rfl
theorem kit_si : PySem.W.kitOne K (.type "str") (.type "int") = some false := by kernel_rfl
theorem kit_sb : PySem.W.kitOne K (.type "str") (.type "bool") = some false := by kernel_rfl
theorem kit_st : PySem.W.kitOne K (.type "str") (.type "tuple") = some false := by kernel_rfl
theorem kit_sl : PySem.W.kitOne K (.type "str") (.type "list") = some false := by kernel_rfl
theorem kit_bi : PySem.W.kitOne K (.type "bool") (.type "int") = some true := by kernel_rfl
theorem kit_bs : PySem.W.kitOne K (.type "bool") (.type "str") = some false := by kernel_rfl
theorem kit_bt : PySem.W.kitOne K (.type "bool") (.type "tuple") = some false := by kernel_rfl
theorem kit_ni : PySem.W.kitOne K (.type "NoneType") (.type "int") = some false := by kernel_rfl
theorem kit_ns : PySem.W.kitOne K (.type "NoneType") (.type "str") = some false := by kernel_rfl
theorem kit_nt : PySem.W.kitOne K (.type "NoneType") (.type "tuple") = some false := by kernel_rfl
theorem kit_tt : PySem.W.kitOne K (.type "tuple") (.type "tuple") = some true := rfl
theorem kit_tl : PySem.W.kitOne K (.type "tuple") (.type "list") = some false := by kernel_rfl
theorem kit_ti : PySem.W.kitOne K (.type "tuple") (.type "int") = some false := by kernel_rfl
theorem kit_ts : PySem.W.kitOne K (.type "tuple") (.type "str") = some false := by kernel_rfl
theorem kit_ll : PySem.W.kitOne K (.type "list") (.type "list") = some true := rfl
theorem kit_lt : PySem.W.kitOne K (.type "list") (.type "tuple") = some false := by kernel_rfl
theorem kit_li : PySem.W.kitOne K (.type "list") (.type "int") = some false := by kernel_rfl
theorem kit_ls : PySem.W.kitOne K (.type "list") (.type "str") = some false := by kernel_rfl
end
theorem pgTup {X : Cx} {pos : Pos} (K : PySem.W.Frag) {es : List Expr} {k : Nat} {t : TGs} {n : Nat} (h : PGs X es t) (hc : X.calm = true := by rfl) (hK : X.K = K := by rfl)
    (hn : (assignEach es X.env).length = n := by rfl) (hst : (assignEach es X.env).findIdx? (·.1) = none := by rfl) : PG X (.Tuple es k pos) (gTup K n t) := by
  subst hK
  exact pg_tup hc h hn hst
theorem ite_t {c : Bool} {A T : Prop} (t : T) (h : c = true → T → A) : if c = true then A else T := by
  cases c with
  | true => exact h rfl t
  | false => exact t
end WK
/-! ## Part 2: defs that ask for the text of data (repr): nothing that guards a repr runs around them -/
namespace WK
open PySem PySem.Spec PyProof.Rows L2
structure GFn (P : Program) (w : World) (K : PySem.W.Frag) (mg : Str → Option Value) (base : Heap) (C : CXT) (k : Nat) (f : Addr) (fd : FuncData) (ps : List Str) (sp : Sp) : Prop where
  len : ∀ vs H Q E, sp vs H Q E → vs.length = ps.length
  go : ∀ (A : Around) (outer : List Env) (s : Shared) (H : Hp) (args : Args) (us : List Value) (vs : List V) (Q : VK) (E : XK), Room k A → A.guards = some [] → Env0 P w K mg base A outer s H →
    BindsTo s fd args (ps.zip us) → Vals vs us → sp vs H Q E → codeAny (model P w) A (.call (.ref f) args) (CR C outer P w H s Q E) s
theorem GFn.of {P : Program} {w : World} {K : PySem.W.Frag} {mg : Str → Option Value} {base : Heap} {C : CXT} {k : Nat} {f : Addr} {fd : FuncData} {ps : List Str} {sp : Sp} (F : FnOk P w K mg base C k f fd ps sp) : GFn P w K mg base C k f fd ps sp :=
  ⟨F.len, fun A outer s H args us vs Q E hr _ he hb hv hs => F.run A outer s H args us vs Q E hr he hb hv hs⟩
/-- the body rule -/
theorem gfn_of {P : Program} {w : World} {K : PySem.W.Frag} {mg : Str → Option Value} {base : Heap} {C : CXT} {k : Nat} {f : Addr} {x q : Str} {pa : Arguments} {bd : List Stmt} {sc : Scope} {fd : FuncData} {N ps : List Str} {sp : Sp}
    (F : FunD K x q pa bd sc [] [] f fd) (S : FnScope N ps sc) (len : ∀ vs H Q E, sp vs H Q E → vs.length = ps.length)
    (body : ∀ (cd : Value) (A : Around) (outer : List Env) (s : Shared) (H : Hp) (vs : List V) (Q : VK) (E : XK), Room k (A.deeper (envOfC q sc s.heap.objs.size f cd)) → (A.deeper (envOfC q sc s.heap.objs.size f cd)).guards = some [] → sp vs H Q E →
      ∃ t, PSs (cxOf C P w K mg base N q sc f cd A outer s H E) bd t ∧ t { nx := fun _ H' => Q .non H', rt := Q } (start N vs) H) : GFn P w K mg base C (k + 1) f fd ps sp := by
  obtain ⟨oc, od, dV, kV, doc, pm, an, cd, ct, osl, rfl, lk, hcd, _, _⟩ := F.ex
  refine ⟨len, fun A outer s H args us vs Q E room gd env0 bnd rel want => ?_⟩
  have len2 := len _ _ _ _ want
  have inK : K.In s.heap := env0.mod.kin.keeps fun b o z => (env0.bs b o z).1
  have nolim : s.heap.NoLimit := env0.mod.nolimit.keeps fun b o z => (env0.bs b o z).1
  have kinds : ∀ y ∈ ps.zip us, sc.names.lookup y.1 = some .local ∨ (sc.names.lookup y.1 = some .cell ∧ ((cellsFrom (s.heap.objs.size + 1) sc.names []).lookup y.1).isSome = true) := by
    rintro ⟨n, v⟩ hy
    cases S.par n (List.of_mem_zip hy).1 with
    | inl z => exact .inl z
    | inr z => exact .inr ⟨z, PySem.W.cellsFrom_some _ _ _ (.inl z)⟩
  refine codeAny_call_function room.depth (inK _ _ lk) rfl S.co S.gen rfl (PySem.W.codeRec_of inK hcd) (bnd _ _ _ _ ?_)
  refine wpAny_newFunctionEnv_cells S.kind kinds fun env' ee s1 x1 => ?_
  subst ee
  refine ⟨nolim.keeps x1.toInCall.keep, codeAny_func ?_⟩
  obtain ⟨t, ht, hq⟩ := body cd A outer s H vs Q E (room.deeper _) gd want
  have II : Inv (cxOf C P w K mg base N q sc f cd A outer s H E) [] (start N vs) H s1 := inv_start S room.hd env0 len2 rel x1
  refine wpAny_mono (ht.run [] s1 (start N vs) H _ II hq) (fun fl s2 hs => ?_) fun e s2 hs => hs
  cases fl with
  | ret u =>
    obtain ⟨v, σ2, H2, J, rv, hv⟩ := hs
    exact ⟨v, H2, J.os, J.bare, J.base, J.hok, rv, hv⟩
  | next =>
    obtain ⟨σ2, H2, J, hv⟩ := hs
    exact ⟨V.non, H2, J.os, J.bare, J.base, J.hok, rfl, hv⟩
  | brk =>
    obtain ⟨_, _, _, z⟩ := hs
    exact z.elim
  | cont =>
    obtain ⟨_, _, _, z⟩ := hs
    exact z.elim
theorem gfn_of0 {P : Program} {w : World} {K : PySem.W.Frag} {mg : Str → Option Value} {base : Heap} {k : Nat} {f : Addr} {x q : Str} {pa : Arguments} {bd : List Stmt} {sc : Scope} {fd : FuncData} {N ps : List Str} {sp : Sp}
    (F : FunD K x q pa bd sc [] [] f fd) (S : FnScope N ps sc) (len : ∀ vs H Q E, sp vs H Q E → vs.length = ps.length)
    (body : ∀ (cd : Value) (A : Around) (outer : List Env) (s : Shared) (H : Hp) (vs : List V) (Q : VK) (E : XK), Room k (A.deeper (envOfC q sc s.heap.objs.size f cd)) → (A.deeper (envOfC q sc s.heap.objs.size f cd)).guards = some [] → sp vs H Q E →
      ∃ t, PSs (cxOf CX0 P w K mg base N q sc f cd A outer s H E).nox bd t ∧ t { nx := fun _ H' => Q .non H', rt := Q } (start N vs) H) : GFn P w K mg base CX0 (k + 1) f fd ps sp :=
  gfn_of F S len fun cd A outer s H vs Q E hr gd h => by
    obtain ⟨t, h1, h2⟩ := body cd A outer s H vs Q E hr gd h
    exact ⟨t, h1.nox, h2⟩
structure OkG (P : Program) (w : World) (K : PySem.W.Frag) (mg : Str → Option Value) (base : Heap) (C : CXT) (k : Nat) (x : Str) (ps : List Str) (sp : Sp) : Prop where
  ex : ∃ fd, GFn P w K mg base C k (He.ga K x) fd ps sp ∧ Binds K fd ps []
  kp : PySem.W.keepIn K (.ref (He.ga K x)) = true
  at_ : mg x = some (.ref (He.ga K x))
theorem Ok.g {P : Program} {w : World} {K : PySem.W.Frag} {mg : Str → Option Value} {base : Heap} {C : CXT} {k : Nat} {x : Str} {ps : List Str} {sp : Sp} (O : Ok P w K mg base C k x ps sp) : OkG P w K mg base C k x ps sp := by
  obtain ⟨fd, F, B⟩ := O.ex
  exact ⟨⟨fd, .of F, B⟩, O.kp, O.at_⟩
theorem OkG.mk' {P : Program} {w : World} {K : PySem.W.Frag} {mg : Str → Option Value} {base : Heap} {C : CXT} {k : Nat} {x : Str} {N ps : List Str} {st : Stmt} {sp : Sp}
    (F : ∃ fd, FunD K x x (defArgs st) (defBody st) (defScope st) [] [] (He.ga K x) fd) (g : mg x = some (.ref (He.ga K x))) (S : FnScope N ps (defScope st)) (len : ∀ vs H Q E, sp vs H Q E → vs.length = ps.length)
    (hb : ∀ (kV doc pm : Value) (an : Option Addr) (cdv ct : Value) (us : List Value), us.length = ps.length → bindArgs (PySem.W.fnOf x x (defArgs st) (defBody st) (defScope st) .none kV doc pm an cdv ct) ⟨us, []⟩ = pure (ps.zip us))
    (hbody : ∀ (f : Addr) (cdv : Value) (A : Around) (outer : List Env) (s : Shared) (H : Hp) (vs : List V) (Q : VK) (E : XK), Room k (A.deeper (envOfC x (defScope st) s.heap.objs.size f cdv)) →
      (A.deeper (envOfC x (defScope st) s.heap.objs.size f cdv)).guards = some [] → sp vs H Q E →
      ∃ t, PSs (cxOf C P w K mg base N x (defScope st) f cdv A outer s H E) (defBody st) t ∧ t { nx := fun _ H' => Q .non H', rt := Q } (start N vs) H) : OkG P w K mg base C (k + 1) x ps sp := by
  obtain ⟨fd, F⟩ := F
  exact ⟨⟨fd, gfn_of F S len fun cdv A outer s H vs Q E => hbody _ cdv A outer s H vs Q E, F.bindsN hb⟩, F.kp, g⟩
theorem OkG.mk0 {P : Program} {w : World} {K : PySem.W.Frag} {mg : Str → Option Value} {base : Heap} {k : Nat} {x : Str} {N ps : List Str} {st : Stmt} {sp : Sp}
    (F : ∃ fd, FunD K x x (defArgs st) (defBody st) (defScope st) [] [] (He.ga K x) fd) (g : mg x = some (.ref (He.ga K x))) (S : FnScope N ps (defScope st)) (len : ∀ vs H Q E, sp vs H Q E → vs.length = ps.length)
    (hb : ∀ (kV doc pm : Value) (an : Option Addr) (cdv ct : Value) (us : List Value), us.length = ps.length → bindArgs (PySem.W.fnOf x x (defArgs st) (defBody st) (defScope st) .none kV doc pm an cdv ct) ⟨us, []⟩ = pure (ps.zip us))
    (hbody : ∀ (f : Addr) (cdv : Value) (A : Around) (outer : List Env) (s : Shared) (H : Hp) (vs : List V) (Q : VK) (E : XK), Room k (A.deeper (envOfC x (defScope st) s.heap.objs.size f cdv)) →
      (A.deeper (envOfC x (defScope st) s.heap.objs.size f cdv)).guards = some [] → sp vs H Q E →
      ∃ t, PSs (cxOf CX0 P w K mg base N x (defScope st) f cdv A outer s H E).nox (defBody st) t ∧ t { nx := fun _ H' => Q .non H', rt := Q } (start N vs) H) : OkG P w K mg base CX0 (k + 1) x ps sp :=
  OkG.mk' F g S len hb fun f cdv A outer s H vs Q E hr hgd h => by
    obtain ⟨t, h1, h2⟩ := hbody f cdv A outer s H vs Q E hr hgd h
    exact ⟨t, h1.nox, h2⟩
section
variable {X : Cx} {C : CXT} {k j : Nat} {ps : List Str} {sp : Sp} {E : XK} {x : Str} {p pos : Pos} {e : Expr} {es : List Expr} {t : TA}
theorem run_g {f : Addr} {fd : FuncData} {pins : List (Addr × Obj)} {σ : L2.St} {H : Hp} {s : Shared} {Q : VK} {us : List Value} {vs : List V} (F : GFn X.prog X.w X.K X.mg X.base C k f fd ps sp) (hr : Room k X.A) (gd : X.A.guards = some []) (hb : Binds X.K fd ps []) (hx : Passes C X E)
    (I : Inv X pins σ H s) (r : Vals vs us) (h : sp vs H Q E) : wpAny (model X.prog X.w) X.A (call (.ref f) us) (EP X pins σ Q) X.xe s := by
  have n1 : us.length = ps.length := by
    rw [← r.length]
    exact F.len _ _ _ _ h
  have b1 := hb s us I.kIn (by rw [List.append_nil]; exact n1)
  rw [List.append_nil] at b1
  refine wpAny_call (codeAny_mono (F.go X.A X.stack s H ⟨us, []⟩ us vs Q E hr gd I.env0 b1 r h) fun res s2 hq => ?_)
  match res, hq with
  | .error er, hq => exact hx pins σ H s er s2 I hq
  | .ok (.ret u), hq => exact I.after hq
  | .ok .next, hq => exact False.elim hq
  | .ok .brk, hq => exact False.elim hq
  | .ok .cont, hq => exact False.elim hq
theorem calGX (O : OkG X.prog X.w X.K X.mg X.base C k x ps sp) (hr : Room j X.A) (gd : X.A.guards = some []) (hx : Passes C X E) (ha : PA X (e :: es) t) (hj : k ≤ j := by first | decide | omega) (hg : Gl X x := by rfl) (hdb : (x == ("__debug__" : Str)) = false := by decide)
    (he : starEach (e :: es) X.env = (false, eval e X.env) :: starEach es X.env := by rfl) (hpl : (backTo pos (starEach es X.env)).any (·.1) = false := by rfl) : PE X (.Call (.Name x p) (e :: es) [] pos) (tCal sp E t) := by
  obtain ⟨fd, F, B⟩ := O.ex
  refine ⟨fun pins s σ H Q I h => ?_⟩
  refine wpAny_Call_Name_kw (ld_glob I hg O.at_ ?_ hdb)
  refine PySem.W.callWith_K (h₀ := X.base) I.ok.mod.kin O.kp (thn (ha.run pos pins s σ H _ I h) fun us s1 ⟨vs, H1, I1, r, hq⟩ => ⟨I1.kIn, ?_⟩) he hpl
  exact run_g F (hr.mono hj) gd B hx I1 r hq
theorem calG (O : OkG X.prog X.w X.K X.mg X.base CX0 k x ps sp) (hr : Room j X.A) (gd : X.A.guards = some []) (ha : PA X (e :: es) t) (hj : k ≤ j := by first | decide | omega) (hg : Gl X x := by rfl) (hdb : (x == ("__debug__" : Str)) = false := by decide)
    (he : starEach (e :: es) X.env = (false, eval e X.env) :: starEach es X.env := by rfl) (hpl : (backTo pos (starEach es X.env)).any (·.1) = false := by rfl) : PE X (.Call (.Name x p) (e :: es) [] pos) (tCal sp E0 t) :=
  calGX O hr gd pass0 ha hj hg hdb he hpl
/-- repr(x), data at any depth but dicts -/
def rRepr (K : PySem.W.Frag) : List V → Hp → VK → Prop := fun xs H Q => ∃ x d, xs = [x] ∧ Dp K H x d ∧ d.showable = true ∧ d.hasDict = false ∧ d.depth ≤ 60 ∧ d.shown.length ≤ sizeLine ∧ Q (.str d.shown) H
theorem reprD (K : PySem.W.Frag) {i : Nat} (hr : Room i X.A) (gd : X.A.guards = some []) (h : X.K = K := by rfl) : CallR X (.builtin "repr") (rRepr K) := by
  subst h
  intro pins s σ H xs us Q I r hw
  obtain ⟨x, d, rfl, hd, h1, h2, h3, h4, q⟩ := hw
  obtain ⟨u, rfl, ru⟩ := vals1 r
  cases hd with
  | non =>
    cases ru
    exact PySem.P.repr_of_none ⟨.str _, H, I.tok _, ⟨_, rfl⟩, q⟩
  | bl b =>
    cases ru
    exact PySem.P.repr_of_bool ⟨.str _, H, I.tok _, ⟨_, rfl⟩, q⟩
  | int n =>
    obtain ⟨t, rfl⟩ := ru
    exact PySem.P.repr_of_int (of_decide_eq_true h1) ⟨.str _, H, I.tok _, ⟨_, rfl⟩, q⟩
  | str z =>
    obtain ⟨t, rfl⟩ := ru
    exact PySem.P.repr_of_str ⟨.str _, H, I.tok _, ⟨_, rfl⟩, q⟩ h4
  | @lst a zs ds hs ha =>
    cases ru
    obtain ⟨as, rd⟩ := Dp.reads I _ _ _ (Dp.lst hs ha) (show RelV (.ref a) (.ref a) from rfl)
    refine repr_of_reads' (h₀ := s.heap) rd h1 (PyData.noDict_hsm h2) gd ?_ (fun _ _ z => z) (fun h' u tk k => ⟨.str _, H, I.kept (t' := tk) k, ⟨u, rfl⟩, q⟩) h4
    have := hr.units
    omega
  | @tup a zs ds hs ha =>
    cases ru
    obtain ⟨as, rd⟩ := Dp.reads I _ _ _ (Dp.tup hs ha) (show RelV (.ref a) (.ref a) from rfl)
    refine repr_of_reads' (h₀ := s.heap) rd h1 (PyData.noDict_hsm h2) gd ?_ (fun _ _ z => z) (fun h' u tk k => ⟨.str _, H, I.kept (t' := tk) k, ⟨u, rfl⟩, q⟩) h4
    have := hr.units
    omega
end
/-- the law's own call -/
theorem law_callG {P : Program} {w : World} {K : PySem.W.Frag} {mg mb : Str → Option Value} {k : Nat} {fa a : Addr} {fd : FuncData} {x : Str} {sp : Sp} {s₁ : Shared} {vs : List Value} {ns : List Int}
    (inK : K.In s₁.heap) (hmg : s₁.heap.Ns mainGlobals mg) (hmb : s₁.heap.Ns builtinsNs mb) (boot : ∀ x : Str, x ≠ "__name__" → mb x = bootBuiltins x) (nolim : s₁.heap.NoLimit) (gens : s₁.gens = #[])
    (ha : s₁.heap.get? a = some { cls := .type "list", data := .seq vs.toArray }) (hi : IntsAre vs ns) (hl : ns.length ≤ sizeLine) (room : Room k callerA)
    (F : ∀ base : Heap, K.In base → base.Ns mainGlobals mg → GFn P w K mg base CX0 k fa fd [x] sp) (bnd : ∀ (s : Shared) (u : Value), BindsTo s fd ⟨[u], []⟩ [(x, u)])
    (want : ∀ H : Hp, Only H → SqL K H a (ns.map V.int) → sp [.ref a] H (fun v _ => v = .bl true) fun _ _ _ => False) :
    codeAny (model P w) callerA (.call (.ref fa) ⟨[.ref a], []⟩) (fun r s2 => r = .ok (.ret (.bool true)) ∧ OldK s₁.heap s2.heap ∧ s2.os = s₁.os ∧ AllBare s2.gens) s₁ := by
  have rel := vals_ints hi
  have lens := hi.length
  have main : ∀ H : Hp, Only H → SqL K H a (ns.map V.int) → HOk P w H s₁.heap → (∀ b, H b ≠ none → b = a) → (H a ≠ none → K.lookup a = none) →
      codeAny (model P w) callerA (.call (.ref fa) ⟨[.ref a], []⟩) (fun r s2 => r = .ok (.ret (.bool true)) ∧ OldK s₁.heap s2.heap ∧ s2.os = s₁.os ∧ AllBare s2.gens) s₁ := by
    intro H only seq hok onlyA notK
    have dict0 : ∀ {b : Addr} {o : Obj} {es : Array DictEntry} {ep : Nat}, s₁.heap.get? b = some o → o.data = .dict es ep → H b = none := by
      intro b o es ep e dd
      cases hb : H b with
      | none => rfl
      | some u =>
        have eb : b = a := onlyA b (by rw [hb]; exact Option.some_ne_none u)
        rw [eb, ha] at e
        have eo := Option.some.inj e
        rw [← eo] at dd
        cases dd
    have nsT : ∀ {b : Addr} {m : Str → Option Value}, s₁.heap.Ns b m → (hidT s₁.heap H).Ns b m := by
      rintro b m ⟨o, es, ep, e, dd, rr⟩
      exact ⟨o, es, ep, hidT_get e (dict0 e dd), dd, rr⟩
    have inT : K.In (hidT s₁.heap H) := fun b o e => hidT_get (inK b o e) (by
      cases hb : H b with
      | none => rfl
      | some u =>
        have eb : b = a := onlyA b (by rw [hb]; exact Option.some_ne_none u)
        have nk := notK (by rw [← eb, hb]; exact Option.some_ne_none u)
        rw [eb, nk] at e
        cases e)
    have md : Mod K mg (hidT s₁.heap H) := by
      obtain ⟨mc, z1, z2⟩ := nolim
      exact ⟨inT, nsT hmg, ⟨mb, nsT hmb, boot⟩, ⟨mc, nsT z1, z2⟩⟩
    have env0 : Env0 P w K mg (hidT s₁.heap H) callerA [] s₁ H := ⟨rfl, md, fun b o e => of_hidT e, Nat.le_of_eq (hidT_size _ _), trivial, fun b hb => (nomatch hb), hok, .of_eq gens⟩
    refine codeAny_mono ((F _ inT (nsT hmg)).go callerA [] s₁ H ⟨[.ref a], []⟩ [.ref a] [.ref a] _ _ room rfl env0 (bnd s₁ (.ref a)) (.cons rfl .nil) (want H only seq)) fun r s2 h => ?_
    match r, h with
    | .error e, h => exact h.elim
    | .ok .next, h => exact h.elim
    | .ok .brk, h => exact h.elim
    | .ok .cont, h => exact h.elim
    | .ok (.ret u), h =>
      obtain ⟨v, H2, os2, bare, un, hok2, rv, hv⟩ := h
      have hv2 : v = .bl true := hv
      rw [hv2] at rv
      have hu : u = Value.bool true := rv
      rw [hu]
      refine ⟨rfl, OldK.of_keep fun b o e => ?_, os2, bare⟩
      cases hb : H b with
      | none => exact un.keep b o e hb (fun z => nomatch z) (fun z => nomatch z)
      | some u2 =>
        rcases only b with z | ⟨o3, xs, z⟩
        · rw [hb] at z
          cases z
        · have z2 := un.frzs b o3 _ z
          have y1 := (hok b _ z).1
          have y2 := (hok2 b _ z2).1
          rw [e] at y1
          rw [Option.some.inj y1]
          exact y2
  cases lk : K.lookup a with
  | some o =>
    have e := inK a o lk
    rw [ha] at e
    rw [← Option.some.inj e] at lk
    refine main (fun _ => none) (fun _ => .inl rfl) (.inr ⟨_, vs.toArray, _, lk, rfl, rfl, rfl, ?_, by simpa using rel⟩) (fun b u z => (nomatch z)) (fun b z => absurd rfl z) fun z => absurd rfl z
    rw [List.size_toArray, lens]
    exact hl
  | none =>
    refine main (fun b => if b = a then some (.frz { cls := .type "list", data := .seq vs.toArray } (.lst (ns.map V.int))) else none) (fun b => ?_) (.inl (.inr ⟨_, if_pos rfl⟩)) (fun b u z => ?_) (fun b z => ?_) fun _ => lk
    · by_cases eb : b = a
      · exact .inr ⟨_, _, if_pos eb⟩
      · exact .inl (if_neg eb)
    · by_cases eb : b = a
      · have z2 := (if_pos eb).symm.trans z
        have z3 := Option.some.inj z2
        rw [← z3, eb]
        exact ⟨ha, by rw [List.length_map]; exact hl, vs, _, rel, ha⟩
      · have z2 := (if_neg eb).symm.trans z
        cases z2
    · by_cases eb : b = a
      · exact eb
      · exact absurd (if_neg eb) z
theorem walkG {l : PySem.W.OpenLaw} {n k : Nat} {q : Program} {loose : List Str} {XP : (Str → Option Value) → Heap → Prop} {YP : World → Heap → Prop} {d : DefRec} {x : Str}
    (hn : l.most = some n) (hn2 : n ≤ sizeLine) (hdf : d.params.defaults = []) (room : Room k callerA)
    (F : ∀ (w : World) (mg : Str → Option Value) (fa : Addr) (h : Heap), YP w h → h.Ns mainGlobals mg → mg d.name = some (.ref fa) →
      ∃ (K : PySem.W.Frag) (fd : FuncData) (sp : Sp), K.In h ∧ (∀ (s : Shared) (u : Value), BindsTo s fd ⟨[u], []⟩ [(x, u)]) ∧
        (∀ (H : Hp) (a : Addr) (ns : List Int), ns.length ≤ n → Only H → SqL K H a (ns.map V.int) → sp [.ref a] H (fun v _ => v = .bl true) fun _ _ _ => False) ∧
        ∀ base : Heap, K.In base → base.Ns mainGlobals mg → GFn l.prog w K mg base CX0 k fa fd [x] sp) :
    PySem.W.WalkO q loose XP YP l.row.toRowW d [] (fun f vs => PySem.call f vs) := by
  refine Att.attach_call hn hdf fun w s₀ s₁ mg mb fa o pm cd doc a vs ns G Y ho hd hcd hmg hobj hints hlen hg => ?_
  obtain ⟨K, fd, sp, inK, hb, want, hF⟩ := F w mg fa _ Y G.T.g hmg
  exact law_callG inK G.T.g G.T.b G.T.builtins G.T.nolimit hg hobj hints (Nat.le_trans hlen hn2) room hF hb fun H only seq => want H a ns hlen only seq
end WK
/-! ## Part 3: what stays in the heap -/
namespace WK
open PySem PySem.Spec PyProof.Rows L2
/-- all that H tells but of a stays told -/
def But (a : Addr) (H H' : Hp) : Prop := ∀ b o, b ≠ a → H b = some o → H' b = some o
theorem But.refl {a : Addr} {H : Hp} : But a H H := fun _ _ _ h => h
theorem But.trans {a : Addr} {H H1 H2 : Hp} (x : But a H H1) (y : But a H1 H2) : But a H H2 := fun b o n h => y b o n (x b o n h)
theorem But.at {a : Addr} {H H' : Hp} {o : HO} (x : But a H H') : But a H (upd H' a o) := fun b u n h => by
  rw [upd_ne n]
  exact x b u n h
theorem But.new {a p : Addr} {H H' : Hp} {o : HO} (x : But a H H') (np : H' p = none) : But a H (upd H' p o) := fun b u n h => by
  have h2 := x b u n h
  rw [upd_ne (ne_of_none h2 np)]
  exact h2
theorem But.of_same {a : Addr} {H H' : Hp} (x : Same H H') : But a H H' := fun b o _ h => x b o h
theorem But.fresh {a p : Addr} {H H' : Hp} (x : But a H H') (n : p ≠ a) (h : H' p = none) : H p = none := by
  cases q : H p with
  | none => rfl
  | some o =>
    have := x p o n q
    rw [h] at this
    cases this
theorem But.sqT {K : PySem.W.Frag} {a t : Addr} {H H' : Hp} {zs xs : List V} (x : But a H H') (ha : H a = some (.lst zs)) (h : SqT K H t xs) : SqT K H' t xs := by
  rcases h with (h | ⟨o, h⟩) | h
  · exact .inl (.inl (x t _ (ne_of h ha (by intro z; cases z)) h))
  · exact .inl (.inr ⟨o, x t _ (ne_of h ha (by intro z; cases z)) h⟩)
  · exact .inr h
theorem But.sqL {K : PySem.W.Frag} {a t : Addr} {H H' : Hp} {xs : List V} (x : But a H H') (n : t ≠ a) (h : SqL K H t xs) : SqL K H' t xs := by
  rcases h with (h | ⟨o, h⟩) | h
  · exact .inl (.inl (x t _ n h))
  · exact .inl (.inr ⟨o, x t _ n h⟩)
  · exact .inr h
theorem same_new {H : Hp} {p : Addr} {o : HO} (np : H p = none) : Same H (upd H p o) := fun b u e => by
  rw [upd_ne (ne_of_none e np)]
  exact e
theorem _root_.L2.Same.new {H H' : Hp} {p : Addr} {o : HO} (x : Same H H') (np : H' p = none) : Same H (upd H' p o) := x.trans (same_new np)
theorem _root_.L2.Same.own {H H' : Hp} {p : Addr} {o : HO} (x : Same H H') (np : H p = none) : Same H (upd H' p o) := fun b u e => by
  rw [upd_ne (ne_of_none e np)]
  exact x b u e
theorem _root_.L2.Same.sqT {K : PySem.W.Frag} {t : Addr} {H H' : Hp} {xs : List V} (x : Same H H') (h : SqT K H t xs) : SqT K H' t xs := by
  rcases h with (h | ⟨o, h⟩) | h
  · exact .inl (.inl (x t _ h))
  · exact .inl (.inr ⟨o, x t _ h⟩)
  · exact .inr h
theorem sqT_of {K : PySem.W.Frag} {H : Hp} {a : Addr} {xs : List V} (h : H a = some (.tup xs)) : SqT K H a xs := .inl (.inl h)
theorem sqL_of {K : PySem.W.Frag} {H : Hp} {a : Addr} {xs : List V} (h : H a = some (.lst xs)) : SqL K H a xs := .inl (.inl h)
theorem upd_at {H : Hp} {a b : Addr} {o u : HO} (n : b ≠ a) (h : H b = some u) : upd H a o b = some u := by
  rw [upd_ne n]
  exact h
theorem upd_new {H : Hp} {a b : Addr} {o u : HO} (n : H a = none) (h : H b = some u) : upd H a o b = some u := by
  rw [upd_ne (ne_of_none h n)]
  exact h
/-! ### sizes -/
theorem pow_nat (k : Nat) : (2 : Int) ^ k = ((2 ^ k : Nat) : Int) := PySem.W.kbt_cast k ▸ rfl
theorem pow_pos' (k : Nat) : (0 : Int) < 2 ^ k := PySem.W.kbt_pos k
theorem abs_pow (k : Nat) : ((2 : Int) ^ k).natAbs = 2 ^ k := by
  rw [pow_nat, Int.natAbs_natCast]
theorem cdiv_pow {i : Int} {k : Nat} (h : k ≤ 8000) : CDivW i (2 ^ k) :=
  wide_div (b := k + 1) (pow_pos' k) (by rw [abs_pow]; exact Nat.pow_lt_pow_right (by omega) (by omega)) (by omega) (by omega)
theorem cdiv_of {i j : Int} {k : Nat} (h0 : 0 < j) (h : j < 2 ^ k) (hk : k ≤ 8000) : CDivW i j := by
  refine wide_div (b := k + 1) h0 ?_ (by omega) (by omega)
  have h1 : ((j.natAbs : Nat) : Int) < ((2 ^ k : Nat) : Int) := by
    rw [← pow_nat]
    omega
  have h2 := Int.ofNat_lt.mp h1
  exact Nat.lt_trans h2 (Nat.pow_lt_pow_right (by omega) (by omega))
theorem abs_lt {i : Int} {k : Nat} (h0 : -(2 ^ k) < i) (h : i < 2 ^ k) : i.natAbs < 2 ^ k := by
  have h1 : ((i.natAbs : Nat) : Int) < ((2 ^ k : Nat) : Int) := by
    rw [← pow_nat]
    omega
  exact Int.ofNat_lt.mp h1
theorem nn_lt {i : Int} {k : Nat} (h0 : 0 ≤ i) (h : i < 2 ^ k) : i.natAbs < 2 ^ k := abs_lt (by have := pow_pos' k; omega) h
theorem mulx_of {i j : Int} {a b : Nat} (h0 : 0 ≤ i) (hi : i < 2 ^ a) (h1 : 0 ≤ j) (hj : j < 2 ^ b) (h : a + b ≤ 100000000) : CMulX i j := mulx_ok (nn_lt h0 hi) (nn_lt h1 hj) (by omega)
theorem mul_lt_pow {i j : Int} {a b : Nat} (h0 : 0 ≤ i) (hi : i < 2 ^ a) (h1 : 0 ≤ j) (hj : j < 2 ^ b) : i * j < 2 ^ (a + b) := by
  have h2 := wide_lt (nn_lt h0 hi) (nn_lt h1 hj)
  have h3 : ((i * j).natAbs : Int) < ((2 ^ (a + b) : Nat) : Int) := Int.ofNat_lt.mpr h2
  rw [← pow_nat] at h3
  have := Int.mul_nonneg h0 h1
  omega
theorem pow_le {a b : Nat} (h : a ≤ b) : (2 : Int) ^ a ≤ 2 ^ b := by
  rw [pow_nat, pow_nat]
  exact Int.ofNat_le.mpr (Nat.pow_le_pow_right (by omega) h)
theorem lt_pow {i : Int} {a b : Nat} (h : i < 2 ^ a) (hab : a ≤ b) : i < 2 ^ b := Int.lt_of_lt_of_le h (pow_le hab)
theorem le_size {n : Nat} (h : n ≤ 100000) : n ≤ sizeLine := Nat.le_trans h (by decide)
theorem lt_size {n : Nat} (h : n < 100000) : n < sizeLine := Nat.lt_of_lt_of_le h (by decide)
theorem scal_ii {i j : Int} : scal (.int i) (.int j) = true := rfl
theorem scal_bb {i j : Bool} : scal (.bl i) (.bl j) = true := rfl
theorem scal_ss {i j : Str} : scal (.str i) (.str j) = true := rfl
theorem scal_nn : scal .non .non = true := rfl
theorem scal_in {i : Int} : scal (.int i) .non = true := rfl
theorem scal_ni {i : Int} : scal .non (.int i) = true := rfl
theorem scal_sn {i : Str} : scal (.str i) .non = true := rfl
theorem scal_ns {i : Str} : scal .non (.str i) = true := rfl
theorem scal_bn {i : Bool} : scal (.bl i) .non = true := rfl
theorem scal_nb {i : Bool} : scal .non (.bl i) = true := rfl
theorem scal_is {i : Int} {j : Str} : scal (.int i) (.str j) = true := rfl
theorem scal_si {i : Int} {j : Str} : scal (.str j) (.int i) = true := rfl
theorem ref_inj {a b : Addr} (h : V.ref a = V.ref b) : a = b := by
  cases h
  rfl
theorem int_eq {i j : Int} (h : i = j) : V.int i = V.int j := by rw [h]
theorem cshl_of {i : Int} {a k : Nat} (h0 : 0 ≤ i) (h : i < 2 ^ a) (hk : a + k ≤ 134217728) : CShl i (k : Int) := by
  have h1 := PyProof.Rows.intBits_le (nn_lt h0 h)
  refine ⟨Int.natCast_nonneg _, ?_⟩
  have e : (2 : Int) ^ 27 = 134217728 := by decide
  rw [e]
  omega
theorem But.keepL {K : PySem.W.Frag} {p s : Addr} {H H' : Hp} {xs : List V} (x : But p H H') (np : H p = none) (h : SqL K H s xs) : SqL K H' s xs := by
  rcases h with (h | ⟨o, h⟩) | h
  · exact .inl (.inl (x s _ (ne_of_none h np) h))
  · exact .inl (.inr ⟨o, x s _ (ne_of_none h np) h⟩)
  · exact .inr h
theorem But.own {p : Addr} {H H' : Hp} {o : HO} (x : But p H H') : But p H (upd H' p o) := x.at
end WK
/-! ## Part 4: loops and comprehensions, apart from what they walk -/
namespace WK
open PySem PySem.Spec PyProof.Rows L2
def Loop (J : It) (g : TG) (tb : TS) (D : Ends) (σ : L2.St) (H : Hp) : Prop := ∃ W : Nat → Nat → L2.St → Hp → Prop, (∃ m, W 0 m σ H) ∧ ∀ i m σ H, W i m σ H →
  (J.stop i H ∧ D.nx σ H) ∨ (J.go i H ∧ ∃ N : L2.St → Hp → Prop, (∀ σ' H', N σ' H' → ∃ m', m' < m ∧ W (i + 1) m' σ' H') ∧ ∀ x H', J.yld i H x H' → g x σ H' fun σ2 H2 => tb { D with nx := N, ct := N, bk := D.nx } σ2 H2)
theorem for_eq (wi : TI) (g : TG) (tb : TS) (D : Ends) (σ : L2.St) (H : Hp) : tFor wi g tb D σ H = wi σ H fun J H1 => Loop J g tb D σ H1 := rfl
def CompL (J : It) (g : TG) (tt : TT) (te : TE) (vs : List Nat) (σ : L2.St) (H1 : Hp) (Q : VK) : Prop := ∀ D, H1 D = none → ∃ W : Nat → Nat → Hp → Prop, (∃ m, W 0 m (upd H1 D (.lst []))) ∧ ∀ i m H, W i m H →
  (J.stop i H ∧ Q (.ref D) H) ∨ (J.go i H ∧ ∃ Nx : Hp → Prop, (∀ H', Nx H' → ∃ m', m' < m ∧ W (i + 1) m' H') ∧ ∀ x H', J.yld i H x H' → g x (wipe σ vs) H' fun σ2 H2 => wipe σ2 vs = wipe σ vs ∧ tt σ2 H2 fun b H3 =>
    if b = true then te σ2 H3 fun y H4 => ∃ acc, H4 D = some (.lst acc) ∧ acc.length < sizeLine ∧ Nx (upd H4 D (.lst (acc ++ [y]))) else Nx H3)
theorem lc_eq (wi : TI) (g : TG) (tt : TT) (te : TE) (vs : List Nat) (σ : L2.St) (H : Hp) (Q : VK) : tLc wi g tt te vs σ H Q = wi σ H fun J H1 => CompL J g tt te vs σ H1 Q := rfl
theorem yes_eq (σ : L2.St) (H : Hp) (Q : Bool → Hp → Prop) : tYes σ H Q = Q true H := rfl
section
variable {K : PySem.W.Frag} {g : TG} {tb : TS} {D : Ends} {σ : L2.St} {H : Hp}
/-- over a range -/
theorem loop_r {lo : Int} {n : Nat} (Pv : Nat → L2.St → Hp → Prop) (h0 : Pv 0 σ H) (hs : ∀ i σ H, i < n → Pv i σ H → g (.int (lo + i)) σ H fun σ2 H2 => tb { D with nx := Pv (i + 1), ct := Pv (i + 1), bk := D.nx } σ2 H2)
    (hd : ∀ σ H, Pv n σ H → D.nx σ H) : Loop (Itr lo n) g tb D σ H := for_range Pv h0 hs hd
theorem loop_r0 {n : Nat} (Pv : Nat → L2.St → Hp → Prop) (h0 : Pv 0 σ H) (hs : ∀ (i : Nat) σ H, i < n → Pv i σ H → g (.int (i : Int)) σ H fun σ2 H2 => tb { D with nx := Pv (i + 1), ct := Pv (i + 1), bk := D.nx } σ2 H2)
    (hd : ∀ σ H, Pv n σ H → D.nx σ H) : Loop (Itr 0 n) g tb D σ H := for_range Pv h0 (fun i σ H hi p => by rw [Int.zero_add]; exact hs i σ H hi p) hd
/-- over a list, a tuple that stand still -/
theorem loop_l {a : Addr} {xs : List V} (Pv : Nat → L2.St → Hp → Prop) (h0 : Pv 0 σ H) (hl : ∀ i σ H, i ≤ xs.length → Pv i σ H → SqL K H a xs)
    (hs : ∀ i x σ H, xs[i]? = some x → Pv i σ H → g x σ H fun σ2 H2 => tb { D with nx := Pv (i + 1), ct := Pv (i + 1), bk := D.nx } σ2 H2) (hd : ∀ σ H, Pv xs.length σ H → D.nx σ H) : Loop (Itl K a) g tb D σ H := for_list Pv h0 hl hs hd
theorem loop_t {a : Addr} {xs : List V} (Pv : Nat → L2.St → Hp → Prop) (h0 : Pv 0 σ H) (hl : ∀ i σ H, i ≤ xs.length → Pv i σ H → SqT K H a xs)
    (hs : ∀ i x σ H, xs[i]? = some x → Pv i σ H → g x σ H fun σ2 H2 => tb { D with nx := Pv (i + 1), ct := Pv (i + 1), bk := D.nx } σ2 H2) (hd : ∀ σ H, Pv xs.length σ H → D.nx σ H) : Loop (Itt K a) g tb D σ H := for_tup Pv h0 hl hs hd
variable {tt : TT} {te : TE} {vs : List Nat} {Q : VK}
theorem comp_r {lo : Int} {n : Nat} (Pv : Addr → Nat → Hp → Prop) (h0 : ∀ D, H D = none → Pv D 0 (upd H D (.lst [])))
    (hs : ∀ D i H', H D = none → i < n → Pv D i H' → g (.int (lo + i)) (wipe σ vs) H' fun σ2 H2 => wipe σ2 vs = wipe σ vs ∧ tt σ2 H2 fun b H3 =>
      if b = true then te σ2 H3 fun y H4 => ∃ acc, H4 D = some (.lst acc) ∧ acc.length < sizeLine ∧ Pv D (i + 1) (upd H4 D (.lst (acc ++ [y]))) else Pv D (i + 1) H3) (hd : ∀ D H', H D = none → Pv D n H' → Q (.ref D) H') : CompL (Itr lo n) g tt te vs σ H Q :=
  fun D hD => lc_range (Pv D) (h0 D hD) (fun i H' => hs D i H' hD) fun H' => hd D H' hD
theorem comp_l {a : Addr} {xs : List V} (Pv : Addr → Nat → Hp → Prop) (h0 : ∀ D, H D = none → Pv D 0 (upd H D (.lst []))) (hl : ∀ D i H', H D = none → i ≤ xs.length → Pv D i H' → SqL K H' a xs)
    (hs : ∀ D i x H', H D = none → xs[i]? = some x → Pv D i H' → g x (wipe σ vs) H' fun σ2 H2 => wipe σ2 vs = wipe σ vs ∧ tt σ2 H2 fun b H3 =>
      if b = true then te σ2 H3 fun y H4 => ∃ acc, H4 D = some (.lst acc) ∧ acc.length < sizeLine ∧ Pv D (i + 1) (upd H4 D (.lst (acc ++ [y]))) else Pv D (i + 1) H3) (hd : ∀ D H', H D = none → Pv D xs.length H' → Q (.ref D) H') : CompL (Itl K a) g tt te vs σ H Q :=
  fun D hD => lc_list (Pv D) (h0 D hD) (fun i H' => hl D i H' hD) (fun i x H' => hs D i x H' hD) fun H' => hd D H' hD
theorem comp_t {a : Addr} {xs : List V} (Pv : Addr → Nat → Hp → Prop) (h0 : ∀ D, H D = none → Pv D 0 (upd H D (.lst []))) (hl : ∀ D i H', H D = none → i ≤ xs.length → Pv D i H' → SqT K H' a xs)
    (hs : ∀ D i x H', H D = none → xs[i]? = some x → Pv D i H' → g x (wipe σ vs) H' fun σ2 H2 => wipe σ2 vs = wipe σ vs ∧ tt σ2 H2 fun b H3 =>
      if b = true then te σ2 H3 fun y H4 => ∃ acc, H4 D = some (.lst acc) ∧ acc.length < sizeLine ∧ Pv D (i + 1) (upd H4 D (.lst (acc ++ [y]))) else Pv D (i + 1) H3) (hd : ∀ D H', H D = none → Pv D xs.length H' → Q (.ref D) H') : CompL (Itt K a) g tt te vs σ H Q :=
  fun D hD => lc_tup (Pv D) (h0 D hD) (fun i H' => hl D i H' hD) (fun i x H' => hs D i x H' hD) fun H' => hd D H' hD
/-- items that are reckoned and make nothing: the list of them -/
theorem comp_r_map {lo : Int} {n : Nat} (f : Nat → V) (hn : n < 100000)
    (hs : ∀ (i : Nat) H' (Qk : VK), i < n → Same H H' → Qk (f i) H' → g (.int (lo + i)) (wipe σ vs) H' fun σ2 H2 => wipe σ2 vs = wipe σ vs ∧ tt σ2 H2 fun b H3 => if b = true then te σ2 H3 Qk else False)
    (hd : ∀ D, H D = none → Q (.ref D) (upd H D (.lst ((List.range n).map f)))) (mt : ∀ σ H (R R' : Bool → Hp → Prop), (∀ b H', R b H' → R' b H') → tt σ H R → tt σ H R')
    (mg : ∀ v σ H (R R' : L2.St → Hp → Prop), (∀ σ' H', R σ' H' → R' σ' H') → g v σ H R → g v σ H R') : CompL (Itr lo n) g tt te vs σ H Q := by
  refine comp_r (fun D i H' => H' = upd H D (.lst ((List.range i).map f))) (fun D hD => rfl) (fun D i H' hD hi e => ?_) (fun D H' hD e => by rw [e]; exact hd D hD)
  subst e
  refine mg _ _ _ _ _ (fun σ2 H2 h => ⟨h.1, mt _ _ _ _ (fun b H3 h3 => ?_) h.2⟩) (hs i _ (fun y H4 => ∃ acc, H4 D = some (.lst acc) ∧ acc.length < sizeLine ∧ upd H4 D (.lst (acc ++ [y])) = upd H D (.lst ((List.range (i + 1)).map f))) hi (same_new hD) ?_)
  · cases b with
    | true => exact h3
    | false => exact h3.elim
  · refine ⟨_, upd_same, ?_, ?_⟩
    · rw [List.length_map, List.length_range]
      exact lt_size (by omega)
    · rw [upd_upd, List.range_succ, List.map_append]
      rfl
end
/-! ### where a reading is cut -/
def tSeqB (t u : TS) : TS := tSeq t u
theorem pss_consB {X : Cx} {st : Stmt} {rest : List Stmt} {t u : TS} (h1 : PS X st t) (h2 : PSs X rest u) : PSs X (st :: rest) (tSeqB t u) := pss_cons h1 h2
/-- the first part leads to what I tells, and what I tells is enough for the rest -/
theorem seq_by {t u : TS} {D : Ends} {σ : L2.St} {H : Hp} (I : L2.St → Hp → Prop) (h2 : ∀ σ' H', I σ' H' → u D σ' H') (h1 : ∀ k : L2.St → Hp → Prop, (∀ σ' H', I σ' H' → k σ' H') → t { D with nx := k } σ H) : tSeqB t u D σ H := h1 _ h2
/-! ### over any walk that the kit tells of -/
section
variable {J : It} {n : Nat} {G : Hp → Prop} {Y : Nat → Hp → V → Hp → Prop} {g : TG} {tb : TS} {D : Ends} {σ : L2.St} {H : Hp}
theorem loop_w (w : Walk J n G Y) (Pv : Nat → L2.St → Hp → Prop) (h0 : Pv 0 σ H) (hG : ∀ i σ H, i ≤ n → Pv i σ H → G H)
    (hs : ∀ i x σ H H', i < n → Pv i σ H → Y i H x H' → g x σ H' fun σ2 H2 => tb { D with nx := Pv (i + 1), ct := Pv (i + 1), bk := D.nx } σ2 H2) (hd : ∀ σ H, Pv n σ H → D.nx σ H) : Loop J g tb D σ H := for_it w Pv h0 hG hs hd
variable {tt : TT} {te : TE} {vs : List Nat} {Q : VK}
theorem comp_w (w : Walk J n G Y) (Pv : Addr → Nat → Hp → Prop) (h0 : ∀ D, H D = none → Pv D 0 (upd H D (.lst []))) (hG : ∀ D i H', H D = none → i ≤ n → Pv D i H' → G H')
    (hs : ∀ D i x H' H2, H D = none → i < n → Pv D i H' → Y i H' x H2 → g x (wipe σ vs) H2 fun σ2 H2 => wipe σ2 vs = wipe σ vs ∧ tt σ2 H2 fun b H3 =>
      if b = true then te σ2 H3 fun y H4 => ∃ acc, H4 D = some (.lst acc) ∧ acc.length < sizeLine ∧ Pv D (i + 1) (upd H4 D (.lst (acc ++ [y]))) else Pv D (i + 1) H3) (hd : ∀ D H', H D = none → Pv D n H' → Q (.ref D) H') : CompL J g tt te vs σ H Q :=
  fun D hD => lc_it w (Pv D) (h0 D hD) (fun i H' => hG D i H' hD) (fun i x H' H2 => hs D i x H' H2 hD) fun H' => hd D H' hD
end
end WK
/-! ## the mathematics of blocks and middles -/
namespace WK
theorem lo_iff {s lo i : Int} (hs : 0 < s) : (lo + s - 1) / s ≤ i ↔ lo ≤ i * s := by
  have h := Int.ediv_lt_iff_lt_mul (a := lo + s - 1) (b := i + 1) hs
  have e : (i + 1) * s = i * s + s := by rw [Int.add_mul, Int.one_mul]
  rw [e] at h
  constructor
  · intro z
    have := h.mp (by omega)
    omega
  · intro z
    have := h.mpr (by omega)
    omega
theorem hi_iff {s hi i : Int} (hs : 0 < s) : i + 1 ≤ (hi + 1) / s ↔ (i + 1) * s - 1 ≤ hi := by
  have h := Int.le_ediv_iff_mul_le (a := i + 1) (b := hi + 1) hs
  constructor
  · intro z
    have := h.mp z
    omega
  · intro z
    exact h.mpr (by omega)
/-- the blocks of size s that lie within lo .. hi -/
def blk (s lo hi : Int) : Int := if (hi + 1) / s - (lo + s - 1) / s > 0 then (hi + 1) / s - (lo + s - 1) / s else 0
/-- .. counted one by one -/
def cntB (s lo hi : Int) : Nat → Int
  | 0 => 0
  | i + 1 => cntB s lo hi i + (if (decide (lo ≤ (i : Int) * s) && decide (((i : Int) + 1) * s - 1 ≤ hi)) = true then 1 else 0)
theorem cntB_eq {s lo hi : Int} (hs : 0 < s) (h0 : 0 ≤ lo) : ∀ i : Nat, ∃ m c : Int, m = (if (i : Int) ≤ (hi + 1) / s then (i : Int) else (hi + 1) / s) ∧ c = (lo + s - 1) / s ∧ 0 ≤ c ∧ cntB s lo hi i = (if m - c > 0 then m - c else 0)
  | 0 => by
    have hc : 0 ≤ (lo + s - 1) / s := Int.ediv_nonneg (by omega) (by omega)
    refine ⟨_, _, rfl, rfl, hc, ?_⟩
    have q : ¬ (if ((0 : Nat) : Int) ≤ (hi + 1) / s then ((0 : Nat) : Int) else (hi + 1) / s) - (lo + s - 1) / s > 0 := by
      simp only [Int.natCast_zero]
      split <;> omega
    rw [if_neg q]
    rfl
  | i + 1 => by
    obtain ⟨m, c, em, ec, hc, e⟩ := cntB_eq hs h0 i
    refine ⟨_, c, rfl, ec, hc, ?_⟩
    have a1 := lo_iff (lo := lo) (i := (i : Int)) hs
    have a2 := hi_iff (hi := hi) (i := (i : Int)) hs
    rw [← ec] at a1
    generalize (hi + 1) / s = d at em a2 ⊢
    show cntB s lo hi i + _ = _
    rw [e, em]
    have e1 : ((i + 1 : Nat) : Int) = (i : Int) + 1 := Int.natCast_succ i
    rw [e1]
    by_cases b1 : lo ≤ (i : Int) * s
    · have b1' := a1.mpr b1
      by_cases b2 : ((i : Int) + 1) * s - 1 ≤ hi
      · have b2' := a2.mpr b2
        rw [if_pos (show (decide (lo ≤ (i : Int) * s) && decide (((i : Int) + 1) * s - 1 ≤ hi)) = true by rw [decide_eq_true b1, decide_eq_true b2]; rfl)]
        rw [if_pos (show (i : Int) ≤ d by omega), if_pos (show (i : Int) + 1 ≤ d by omega)]
        by_cases q : (i : Int) - c > 0
        · rw [if_pos q, if_pos (by omega)]
          omega
        · rw [if_neg q, if_pos (by omega)]
          omega
      · have b2' : ¬ (i : Int) + 1 ≤ d := fun z => b2 (a2.mp z)
        rw [if_neg (show ¬ (decide (lo ≤ (i : Int) * s) && decide (((i : Int) + 1) * s - 1 ≤ hi)) = true by rw [decide_eq_false b2, Bool.and_false]; exact Bool.false_ne_true)]
        rw [if_neg b2', Int.add_zero]
        by_cases q : (i : Int) ≤ d
        · rw [if_pos q]
          have : (i : Int) = d := by omega
          rw [this]
        · rw [if_neg q]
    · have b1' : ¬ c ≤ (i : Int) := fun z => b1 (a1.mp z)
      rw [if_neg (show ¬ (decide (lo ≤ (i : Int) * s) && decide (((i : Int) + 1) * s - 1 ≤ hi)) = true by rw [decide_eq_false b1, Bool.false_and]; exact Bool.false_ne_true), Int.add_zero]
      have q1 : ¬ (if (i : Int) ≤ d then (i : Int) else d) - c > 0 := by
        split <;> omega
      have q2 : ¬ (if (i : Int) + 1 ≤ d then (i : Int) + 1 else d) - c > 0 := by
        split <;> omega
      rw [if_neg q1, if_neg q2]
/-- all blocks of an axis are asked -/
theorem cntB_all {s lo hi : Int} {n : Nat} (hs : 0 < s) (h0 : 0 ≤ lo) (hn : hi < (n : Int) * s) : cntB s lo hi n = blk s lo hi := by
  obtain ⟨m, c, em, ec, hc, e⟩ := cntB_eq (hi := hi) hs h0 n
  have hd : (hi + 1) / s ≤ (n : Int) := by
    have := (Int.ediv_lt_iff_lt_mul (a := hi + 1) (b := (n : Int) + 1) hs).mpr (by rw [Int.add_mul, Int.one_mul]; omega)
    omega
  have em2 : m = (hi + 1) / s := by
    rw [em]
    split
    · omega
    · rfl
  rw [e, em2, ec] <;> rfl
/-- the middles of blocks of size 2 h within lo + 1 .. hi -/
def mid (h lo hi : Int) : Int := hi / h - lo / h - hi / (2 * h) + lo / (2 * h)
def cntM (h lo hi : Int) : Nat → Int
  | 0 => 0
  | i + 1 => cntM h lo hi i + (if (decide (lo < (i : Int) * (2 * h) + h) && decide ((i : Int) * (2 * h) + h ≤ hi)) = true then 1 else 0)
theorem mid_iff {h x i : Int} (hh : 0 < h) : i * (2 * h) + h ≤ x ↔ i < (x / h + 1) / 2 := by
  have a := Int.le_ediv_iff_mul_le (a := 2 * i + 1) (b := x) hh
  have e : (2 * i + 1) * h = i * (2 * h) + h := by rw [Int.add_mul, Int.one_mul, Int.mul_left_comm i 2 h, Int.mul_assoc]
  rw [e] at a
  rw [← a]
  generalize x / h = y
  omega
theorem mid_half {h x : Int} (hh : 0 < h) : x / h - x / (2 * h) = (x / h + 1) / 2 := by
  have e : x / (2 * h) = x / h / 2 := by
    rw [Int.mul_comm 2 h]
    exact (Int.ediv_ediv_of_nonneg (by omega)).symm
  rw [e]
  generalize x / h = y
  omega
theorem mid_eq {h lo hi : Int} (hh : 0 < h) : mid h lo hi = (hi / h + 1) / 2 - (lo / h + 1) / 2 := by
  rw [← mid_half (x := hi) hh, ← mid_half (x := lo) hh]
  unfold mid
  omega
theorem cntM_eq {h lo hi : Int} (hh : 0 < h) (hl : lo ≤ hi) : ∀ i : Nat, cntM h lo hi i = (if (i : Int) ≤ (hi / h + 1) / 2 then (i : Int) else (hi / h + 1) / 2) - (if (i : Int) ≤ (lo / h + 1) / 2 then (i : Int) else (lo / h + 1) / 2) ∨ (lo < 0)
  | 0 => by
    by_cases z : lo < 0
    · exact .inr z
    · left
      have l1 : 0 ≤ lo / h := Int.ediv_nonneg (by omega) (by omega)
      have l2 : 0 ≤ hi / h := Int.ediv_nonneg (by omega) (by omega)
      show (0 : Int) = _
      rw [if_pos (by simp only [Int.natCast_zero]; omega), if_pos (by simp only [Int.natCast_zero]; omega)]
      omega
  | i + 1 => by
    rcases cntM_eq hh hl i with e | z
    · left
      have a1 := mid_iff (x := lo) (i := (i : Int)) hh
      have a2 := mid_iff (x := hi) (i := (i : Int)) hh
      have l3 : lo / h ≤ hi / h := Int.ediv_le_ediv hh hl
      generalize lo / h = p at *
      generalize hi / h = q at *
      show cntM h lo hi i + _ = _
      have e1 : ((i + 1 : Nat) : Int) = (i : Int) + 1 := Int.natCast_succ i
      rw [e, e1]
      generalize (i : Int) * (2 * h) + h = y at *
      by_cases b1 : lo < y
      · by_cases b2 : y ≤ hi
        · rw [if_pos (show (decide (lo < y) && decide (y ≤ hi)) = true by rw [decide_eq_true b1, decide_eq_true b2]; rfl)]
          have c1 : ¬ (i : Int) < (p + 1) / 2 := fun z => by
            have := a1.mpr z
            omega
          have c2 := a2.mp b2
          rw [if_pos (show (i : Int) ≤ (q + 1) / 2 by omega), if_pos (show (i : Int) + 1 ≤ (q + 1) / 2 by omega)]
          rw [if_neg (show ¬ (i : Int) + 1 ≤ (p + 1) / 2 by omega)]
          split <;> omega
        · rw [if_neg (show ¬ (decide (lo < y) && decide (y ≤ hi)) = true by rw [decide_eq_false b2, Bool.and_false]; exact Bool.false_ne_true)]
          have c1 : ¬ (i : Int) < (p + 1) / 2 := fun z => by
            have := a1.mpr z
            omega
          have c2 : ¬ (i : Int) < (q + 1) / 2 := fun z => b2 (a2.mpr z)
          rw [if_neg (show ¬ (i : Int) + 1 ≤ (q + 1) / 2 by omega), if_neg (show ¬ (i : Int) + 1 ≤ (p + 1) / 2 by omega)]
          split <;> split <;> omega
      · rw [if_neg (show ¬ (decide (lo < y) && decide (y ≤ hi)) = true by rw [decide_eq_false b1, Bool.false_and]; exact Bool.false_ne_true)]
        have c1 := a1.mp (by omega)
        have c2 : (i : Int) < (q + 1) / 2 := by omega
        rw [if_pos (show (i : Int) + 1 ≤ (q + 1) / 2 by omega), if_pos (show (i : Int) + 1 ≤ (p + 1) / 2 by omega), if_pos (show (i : Int) ≤ (q + 1) / 2 by omega), if_pos (show (i : Int) ≤ (p + 1) / 2 by omega)]
        omega
    · exact .inr z
theorem cntM_all {h lo hi : Int} {n : Nat} (hh : 0 < h) (h0 : 0 ≤ lo) (hl : lo ≤ hi) (hn : hi < (n : Int) * (2 * h)) : cntM h lo hi n = mid h lo hi := by
  rcases cntM_eq hh hl n with e | z
  · have hd : (hi / h + 1) / 2 ≤ (n : Int) := by
      have a := mid_iff (x := hi) (i := (n : Int)) hh
      have : ¬ (n : Int) * (2 * h) + h ≤ hi := by omega
      have := fun z => this (a.mpr z)
      omega
    have l3 : lo / h ≤ hi / h := Int.ediv_le_ediv hh hl
    rw [e, mid_eq hh]
    have e1 : (if (n : Int) ≤ (hi / h + 1) / 2 then (n : Int) else (hi / h + 1) / 2) = (hi / h + 1) / 2 := by
      split <;> omega
    have e2 : (if (n : Int) ≤ (lo / h + 1) / 2 then (n : Int) else (lo / h + 1) / 2) = (lo / h + 1) / 2 := by
      split <;> omega
    rw [e1, e2]
  · omega
/-- more bits behind change nothing -/
theorem blk_wide {s lo hi m : Int} (hs : 0 < s) (hm : 0 < m) : blk (s * m) (lo * m) ((hi + 1) * m - 1) = blk s lo hi := by
  have e1 : ((hi + 1) * m - 1 + 1) / (s * m) = (hi + 1) / s := by
    rw [Int.sub_add_cancel]
    exact Int.mul_ediv_mul_of_pos_left _ _ hm
  have e2 : (lo * m + s * m - 1) / (s * m) = (lo + s - 1) / s := by
    have hsm : 0 < s * m := Int.mul_pos hs hm
    apply Int.le_antisymm
    · rw [lo_iff hsm]
      have := (lo_iff (lo := lo) (i := (lo + s - 1) / s) hs).mp (Int.le_refl _)
      rw [← Int.mul_assoc]
      exact Int.mul_le_mul_of_nonneg_right this (by omega)
    · rw [lo_iff hs]
      have := (lo_iff (lo := lo * m) (i := (lo * m + s * m - 1) / (s * m)) hsm).mp (Int.le_refl _)
      rw [← Int.mul_assoc] at this
      exact Int.le_of_mul_le_mul_right this hm
  unfold blk
  rw [e1, e2]
theorem mid_wide {h lo hi m : Int} (hh : 0 < h) (hm : 0 < m) : mid (h * m) (lo * m) ((hi + 1) * m - 1) = mid h lo hi := by
  have d : ∀ {t : Int}, 0 < t → ((hi + 1) * m - 1) / (t * m) = hi / t := fun {t} ht => by
    have htm : 0 < t * m := Int.mul_pos ht hm
    apply Int.le_antisymm
    · have a := (Int.le_ediv_iff_mul_le (a := ((hi + 1) * m - 1) / (t * m)) (b := (hi + 1) * m - 1) htm).mp (Int.le_refl _)
      rw [Int.le_ediv_iff_mul_le ht]
      rw [← Int.mul_assoc] at a
      have b : ((hi + 1) * m - 1) / (t * m) * t * m < (hi + 1) * m := by omega
      have := Int.lt_of_mul_lt_mul_right b (by omega)
      omega
    · rw [Int.le_ediv_iff_mul_le htm]
      have a := (Int.le_ediv_iff_mul_le (a := hi / t) (b := hi) ht).mp (Int.le_refl _)
      have b : hi / t * t * m ≤ hi * m := Int.mul_le_mul_of_nonneg_right a (by omega)
      rw [← Int.mul_assoc, Int.add_mul]
      omega
  unfold mid
  rw [d hh, Int.mul_ediv_mul_of_pos_left _ _ hm, ← Int.mul_assoc, d (by omega), Int.mul_ediv_mul_of_pos_left _ _ hm]
theorem step_div {s y : Int} (hs : 0 < s) : y / s - (y - 1) / s = if y % s = 0 then 1 else 0 := by
  have e := Int.mul_ediv_add_emod y s
  have r0 := Int.emod_nonneg y (show s ≠ 0 by omega)
  have r1 := Int.emod_lt_of_pos y hs
  rw [Int.mul_comm] at e
  generalize y / s = q at *
  generalize y % s = r at *
  have a1 : (y - 1) / s ≤ q := by
    have := (Int.ediv_lt_iff_lt_mul (a := y - 1) (b := q + 1) hs).mpr (by rw [Int.add_mul, Int.one_mul]; omega)
    omega
  have a2 : q - 1 ≤ (y - 1) / s := (Int.le_ediv_iff_mul_le hs).mpr (by rw [Int.sub_mul, Int.one_mul]; omega)
  split
  · have := (Int.ediv_lt_iff_lt_mul (a := y - 1) (b := q) hs).mpr (by omega)
    omega
  · have := (Int.le_ediv_iff_mul_le (a := q) (b := y - 1) hs).mpr (by omega)
    omega
theorem mid_f {h x : Int} (hh : 0 < h) : (x / h + 1) / 2 = (x + h) / (2 * h) := by
  rw [Int.mul_comm 2 h, ← Int.ediv_ediv_of_nonneg (by omega)]
  have := Int.add_mul_ediv_right x 1 (show h ≠ 0 by omega)
  rw [Int.one_mul] at this
  rw [this]
theorem mid_mod {h x : Int} (hh : 0 < h) : (x + h) % (2 * h) = 0 ↔ x % (2 * h) = h := by
  have e := Int.mul_ediv_add_emod x (2 * h)
  have r0 := Int.emod_nonneg x (show 2 * h ≠ 0 by omega)
  have r1 := Int.emod_lt_of_pos x (show 0 < 2 * h by omega)
  have e2 : (x + h) % (2 * h) = (x % (2 * h) + h) % (2 * h) := (Int.emod_add_emod x (2 * h) h).symm
  rw [e2]
  generalize x % (2 * h) = r at *
  by_cases z : r < h
  · rw [Int.emod_eq_of_lt (by omega) (by omega)]
    omega
  · have : (r + h) % (2 * h) = r - h := by
      have := Int.add_mul_emod_self_right (r - h) 1 (2 * h)
      rw [Int.one_mul, Int.emod_eq_of_lt (a := r - h) (by omega) (by omega)] at this
      rw [← this]
      congr 1
      omega
    rw [this]
    omega
theorem mid_at {h x : Int} (hh : 0 < h) : (x / h + 1) / 2 - ((x - 1) / h + 1) / 2 = if x % (2 * h) = h then 1 else 0 := by
  rw [mid_f hh, mid_f hh]
  have := step_div (y := x + h) (s := 2 * h) (by omega)
  rw [show x - 1 + h = x + h - 1 by omega, this]
  by_cases z : x % (2 * h) = h
  · rw [if_pos z, if_pos ((mid_mod hh).mpr z)]
  · rw [if_neg z, if_neg fun y => z ((mid_mod hh).mp y)]
theorem mid_left {h lo hi : Int} (hh : 0 < h) : mid h lo hi - mid h (lo + 1) hi = if (lo + 1) % (2 * h) = h then 1 else 0 := by
  rw [mid_eq hh, mid_eq hh, ← mid_at hh, show lo + 1 - 1 = lo by omega]
  omega
theorem mid_right {h lo hi : Int} (hh : 0 < h) : mid h lo (hi + 1) - mid h lo hi = if (hi + 1) % (2 * h) = h then 1 else 0 := by
  rw [mid_eq hh, mid_eq hh, ← mid_at hh, show hi + 1 - 1 = hi by omega]
  omega
theorem mid_cut {h lo sp hi : Int} : mid h lo sp + mid h sp hi = mid h lo hi := by
  unfold mid
  omega
theorem blk_right {s lo hi : Int} (hs : 0 < s) : blk s lo (hi + 1) - blk s lo hi = if (hi + 2) % s = 0 ∧ lo ≤ hi + 2 - s then 1 else 0 := by
  have d := step_div (y := hi + 2) hs
  have e := Int.mul_ediv_add_emod (hi + 2) s
  rw [Int.mul_comm] at e
  have l := lo_iff (lo := lo) (i := (hi + 2) / s - 1) hs
  rw [Int.sub_mul, Int.one_mul] at l
  unfold blk
  rw [show hi + 1 + 1 = hi + 2 by omega]
  rw [show hi + 2 - 1 = hi + 1 by omega] at d
  generalize (hi + 2) / s * s = qs at *
  generalize (hi + 2) / s = q at *
  generalize (hi + 1) / s = q1 at *
  generalize (lo + s - 1) / s = c at *
  by_cases z : (hi + 2) % s = 0
  · rw [if_pos z] at d
    rw [z] at e
    by_cases y : lo ≤ hi + 2 - s
    · have := l.mpr (by omega)
      rw [show (if (hi + 2) % s = 0 ∧ lo ≤ hi + 2 - s then 1 else 0 : Int) = 1 from if_pos ⟨z, y⟩]
      split <;> split <;> omega
    · have := fun w => y (by have := l.mp w; omega)
      rw [show (if (hi + 2) % s = 0 ∧ lo ≤ hi + 2 - s then 1 else 0 : Int) = 0 from if_neg fun w => y w.2]
      split <;> split <;> omega
  · rw [if_neg z] at d
    rw [show (if (hi + 2) % s = 0 ∧ lo ≤ hi + 2 - s then 1 else 0 : Int) = 0 from if_neg fun w => z w.1]
    split <;> split <;> omega
theorem blk_first {s lo hi : Int} (hs : 0 < s) : (if (hi + 1 - (lo + (0 - lo) % s)) / s > 0 then (hi + 1 - (lo + (0 - lo) % s)) / s else 0) = blk s lo hi := by
  have e := Int.mul_ediv_add_emod (0 - lo) s
  have r0 := Int.emod_nonneg (0 - lo) (show s ≠ 0 by omega)
  have r1 := Int.emod_lt_of_pos (0 - lo) hs
  have ec : lo + (0 - lo) % s = (lo + s - 1) / s * s := by
    have a1 := lo_iff (lo := lo) (i := (lo + s - 1) / s) hs
    have a2 := lo_iff (lo := lo) (i := -((0 - lo) / s)) hs
    have a3 := lo_iff (lo := lo) (i := -((0 - lo) / s) - 1) hs
    rw [Int.sub_mul, Int.one_mul] at a3
    rw [Int.neg_mul] at a2 a3
    rw [Int.mul_comm] at e
    have b2 := a2.mpr (by omega)
    have b3 : ¬ (lo + s - 1) / s ≤ -((0 - lo) / s) - 1 := fun z => by
      have := a3.mp z
      omega
    have : (lo + s - 1) / s = -((0 - lo) / s) := by omega
    rw [this, Int.neg_mul]
    omega
  rw [ec]
  have : (hi + 1 - (lo + s - 1) / s * s) / s = (hi + 1) / s - (lo + s - 1) / s := by
    have := Int.add_mul_ediv_right (hi + 1) (-((lo + s - 1) / s)) (show s ≠ 0 by omega)
    rw [Int.neg_mul] at this
    rw [Int.sub_eq_add_neg, this]
    omega
  rw [this]
  rfl
theorem blk_one {lo hi : Int} (h : lo ≤ hi) : blk 1 lo hi = hi - lo + 1 := by
  unfold blk
  rw [Int.ediv_one, Int.ediv_one]
  split <;> omega
end WK
/-! ## the text of data -/
namespace WK
open PySem PySem.Spec PyProof.Rows L2
structure DOk (h n : Nat) (d : PyData) : Prop where
  sh : d.showable = true
  nd : d.hasDict = false
  dp : d.depth ≤ h
  ln : d.shown.length ≤ n
theorem DOk.mono {h n h' n' : Nat} {d : PyData} (x : DOk h n d) (a : h ≤ h') (b : n ≤ n') : DOk h' n' d := ⟨x.sh, x.nd, Nat.le_trans x.dp a, Nat.le_trans x.ln b⟩
theorem DOk.int {i : Int} {k : Nat} (h : i.natAbs < 2 ^ k) (h0 : 0 < k) (hk : k ≤ 1900) : DOk 0 (k + 1) (.int i) := by
  refine ⟨?_, rfl, Nat.le_refl _, ?_⟩
  · show decide (i.natAbs.log2 < 1920) = true
    apply decide_eq_true
    by_cases z : i.natAbs = 0
    · rw [z]
      decide
    · have := (Nat.log2_lt z).mpr h
      omega
  · show (Str.ofString (toString i)).length ≤ _
    rw [PySem.ofString_length]
    exact int_text_length_le10 h0 (Nat.lt_of_lt_of_le h (Nat.pow_le_pow_left (by decide) k))
theorem DOk.bool {b : Bool} : DOk 0 5 (.bool b) := ⟨rfl, rfl, Nat.le_refl _, by cases b <;> decide⟩
theorem DOk.none : DOk 0 5 .none := ⟨rfl, rfl, Nat.le_refl _, by decide⟩
theorem dok_all {h n : Nat} : ∀ {ds : List PyData}, (∀ d ∈ ds, DOk h n d) → PyData.showableAll ds = true ∧ PyData.hasDictAll ds = false ∧ PyData.depthAll ds ≤ h ∧ ((PyData.shownAll ds).map (·.length)).sum ≤ ds.length * n ∧ (PyData.shownAll ds).length = ds.length
  | [], _ => ⟨rfl, rfl, Nat.zero_le _, by simp [PyData.shownAll], rfl⟩
  | d :: ds, H => by
    obtain ⟨a, b, c, e, f⟩ := dok_all (ds := ds) fun x hx => H x (List.mem_cons_of_mem _ hx)
    obtain ⟨a1, b1, c1, e1⟩ := H d List.mem_cons_self
    refine ⟨by rw [PyData.showableAll, a1, a]; rfl, by rw [PyData.hasDictAll, b1, b]; rfl, ?_, ?_, ?_⟩
    · rw [PyData.depthAll]
      exact Nat.max_le.mpr ⟨c1, c⟩
    · simp only [PyData.shownAll, List.map_cons, List.sum_cons, List.length_cons, Nat.succ_mul]
      omega
    · simp only [PyData.shownAll, List.length_cons, f]
theorem DOk.list {h n : Nat} {ds : List PyData} (H : ∀ d ∈ ds, DOk h n d) : DOk (h + 1) (ds.length * (n + 2) + 3) (.list ds) := by
  obtain ⟨a, b, c, e, f⟩ := dok_all H
  refine ⟨by rw [PyData.showable]; exact a, by rw [PyData.hasDict]; exact b, by rw [PyData.depth]; omega, ?_⟩
  rw [PyData.shown]
  have := listText_len_le (PyData.shownAll ds)
  rw [f] at this
  rw [Nat.mul_add]
  omega
theorem DOk.tuple {h n : Nat} {ds : List PyData} (H : ∀ d ∈ ds, DOk h n d) : DOk (h + 1) (ds.length * (n + 2) + 3) (.tuple ds) := by
  obtain ⟨a, b, c, e, f⟩ := dok_all H
  refine ⟨by rw [PyData.showable]; exact a, by rw [PyData.hasDict]; exact b, by rw [PyData.depth]; omega, ?_⟩
  rw [PyData.shown]
  have := tupleText_len_le (PyData.shownAll ds)
  rw [f] at this
  rw [Nat.mul_add]
  omega
theorem DOk.str {x : Str} (hx : ∀ c ∈ x.cps.toList, c < 16 ^ 8) : DOk 0 (x.length * 10 + 2) (.str x) := by
  refine ⟨rfl, rfl, Nat.le_refl _, ?_⟩
  have e := PySem.StrLaws.reprText_len x hx
  rw [PyData.shown]
  have e2 : x.length = x.cps.size := rfl
  omega
theorem DOk.ints {k : Nat} {ns : List Int} (h : ∀ i ∈ ns, i.natAbs < 2 ^ k) (h0 : 0 < k) (hk : k ≤ 1900) : DOk 1 (ns.length * (k + 3) + 3) (.list (ns.map .int)) := by
  have := DOk.list (ds := ns.map .int) (h := 0) (n := k + 1) fun d hd => by
    obtain ⟨i, hi, rfl⟩ := List.mem_map.mp hd
    exact DOk.int (h i hi) h0 hk
  rw [List.length_map] at this
  exact this
theorem repr_do {K : PySem.W.Frag} {x : V} {d : PyData} {H : Hp} {Q : VK} {h n : Nat} (a : Dp K H x d) (b : DOk h n d) (c : h ≤ 60) (e : n ≤ 100000) (q : Q (.str d.shown) H) : rRepr K [x] H Q :=
  ⟨x, d, rfl, a, b.sh, b.nd, Nat.le_trans b.dp c, Nat.le_trans b.ln (le_size e), q⟩
theorem dp_ints {K : PySem.W.Frag} {H : Hp} : ∀ ns : List Int, DpAll K H (ns.map V.int) (ns.map .int)
  | [] => .nil
  | n :: ns => .cons (.int n) (dp_ints ns)
theorem shaped_all0 : ∀ ns : List Int, PyData.canLayAll0 (ns.map .int) = true ∧ PyData.depthAll (ns.map .int) = 0
  | [] => ⟨rfl, rfl⟩
  | n :: ns => by
    obtain ⟨a, b⟩ := shaped_all0 ns
    exact ⟨by simp only [List.map_cons, PyData.canLayAll0, PyData.canLay0, a, Bool.and_self], by simp only [List.map_cons, PyData.depthAll, PyData.depth, b, Nat.max_self]⟩
theorem eqv_ints : ∀ ns : List Int, PyData.eqvAll (ns.map .int) (ns.map .int) = true
  | [] => rfl
  | n :: ns => by
    rw [List.map_cons, PyData.eqvAll, PyData.eqv, eqv_ints ns]
    simp
/-- data that can be compared -/
structure LOk (h : Nat) (d : PyData) : Prop where
  lay : d.canLay0 = true
  dp : d.depth ≤ h
theorem LOk.mono {h h' : Nat} {d : PyData} (x : LOk h d) (a : h ≤ h') : LOk h' d := ⟨x.lay, Nat.le_trans x.dp a⟩
theorem LOk.int {i : Int} : LOk 0 (.int i) := ⟨rfl, Nat.le_refl _⟩
theorem LOk.bool {b : Bool} : LOk 0 (.bool b) := ⟨rfl, Nat.le_refl _⟩
theorem LOk.none : LOk 0 .none := ⟨rfl, Nat.le_refl _⟩
theorem lok_all {h : Nat} : ∀ {ds : List PyData}, (∀ d ∈ ds, LOk h d) → PyData.canLayAll0 ds = true ∧ PyData.depthAll ds ≤ h
  | [], _ => ⟨rfl, Nat.zero_le _⟩
  | d :: ds, H => by
    obtain ⟨a, b⟩ := lok_all (ds := ds) fun x hx => H x (List.mem_cons_of_mem _ hx)
    have h1 := H d List.mem_cons_self
    exact ⟨by rw [PyData.canLayAll0, h1.lay, a]; rfl, by rw [PyData.depthAll]; exact Nat.max_le.mpr ⟨h1.dp, b⟩⟩
theorem LOk.list {h : Nat} {ds : List PyData} (H : ∀ d ∈ ds, LOk h d) : LOk (h + 1) (.list ds) := by
  obtain ⟨a, b⟩ := lok_all H
  exact ⟨by rw [PyData.canLay0]; exact a, by rw [PyData.depth]; omega⟩
theorem LOk.tuple {h : Nat} {ds : List PyData} (H : ∀ d ∈ ds, LOk h d) : LOk (h + 1) (.tuple ds) := by
  obtain ⟨a, b⟩ := lok_all H
  exact ⟨by rw [PyData.canLay0]; exact a, by rw [PyData.depth]; omega⟩
theorem LOk.ints {ns : List Int} : LOk 1 (.list (ns.map .int)) := LOk.list fun d hd => by
  obtain ⟨i, _, rfl⟩ := List.mem_map.mp hd
  exact LOk.int
theorem LOk.intsT {ns : List Int} : LOk 1 (.tuple (ns.map .int)) := LOk.tuple fun d hd => by
  obtain ⟨i, _, rfl⟩ := List.mem_map.mp hd
  exact LOk.int
theorem LOk.shaped {h : Nat} {d : PyData} (x : LOk h d) (l : h ≤ 64 := by decide) : SeqAt.shaped d = true := by
  have := x.dp
  unfold SeqAt.shaped
  rw [x.lay, decide_eq_true (show d.depth ≤ 64 by omega)]
  rfl
/-- both are the same data -/
theorem eq_same {K : PySem.W.Frag} {x y : V} {d : PyData} {h : Nat} {H : Hp} {Q : VK} (hx : Dp K H x d) (hy : Dp K H y d) (l : LOk h d) (q : Q (.bl true) H) (hh : h ≤ 64 := by decide) : rEqD K x y H Q := by
  refine ⟨d, d, hx, hy, l.shaped hh, l.shaped hh, ?_⟩
  rw [PySem.SeqAt.eqv_refl d l.lay]
  exact q
theorem ne_same {K : PySem.W.Frag} {x y : V} {d : PyData} {h : Nat} {H : Hp} {Q : VK} (hx : Dp K H x d) (hy : Dp K H y d) (l : LOk h d) (q : Q (.bl false) H) (hh : h ≤ 64 := by decide) : rNeD K x y H Q := by
  refine ⟨d, d, hx, hy, l.shaped hh, l.shaped hh, ?_⟩
  rw [PySem.SeqAt.eqv_refl d l.lay]
  exact q
theorem dp_lst {K : PySem.W.Frag} {H : Hp} {a : Addr} {ns : List Int} (h : SqL K H a (ns.map V.int)) : Dp K H (.ref a) (.list (ns.map .int)) := .lst h (dp_ints ns)
theorem dp_tup {K : PySem.W.Frag} {H : Hp} {a : Addr} {ns : List Int} (h : SqT K H a (ns.map V.int)) : Dp K H (.ref a) (.tuple (ns.map .int)) := .tup h (dp_ints ns)
theorem DOk.intsT {k : Nat} {ns : List Int} (h : ∀ i ∈ ns, i.natAbs < 2 ^ k) (h0 : 0 < k) (hk : k ≤ 1900) : DOk 1 (ns.length * (k + 3) + 3) (.tuple (ns.map .int)) := by
  have := DOk.tuple (ds := ns.map .int) (h := 0) (n := k + 1) fun d hd => by
    obtain ⟨i, hi, rfl⟩ := List.mem_map.mp hd
    exact DOk.int (h i hi) h0 hk
  rw [List.length_map] at this
  exact this
end WK
/-! ## what the head hands over: facts, own checks, defs at reckoned places -/
namespace WK
open PySem PySem.Spec PyProof.Rows L2
def gpa (K : PySem.W.Frag) (C : Addr) (f : Str) : Addr := match PySem.W.recIn K (He.ma K C f) "property" with
  | some (.ref g :: _) => g
  | _ => 0
def propB (C f : Str) (K : PySem.W.Frag) : Bool :=
  decide (PySem.W.findIn K (.ref (He.ga K C)) f = some (some (.ref (He.ma K (He.ga K C) f)))) &&
  (decide (PySem.W.specialIn K (.ref (He.ma K (He.ga K C) f)) "__get__" = some (some (.builtin "property.__get__"))) &&
  (decide (PySem.W.takesIn K (.ref (He.ma K (He.ga K C) f)) = some true) &&
  (match PySem.W.recIn K (He.ma K (He.ga K C) f) "property" with
  | some (.ref _ :: _) => true
  | _ => false)))
theorem propB_ok {K : PySem.W.Frag} {C f : Str} (h : propB C f K = true) : PropOf K (He.ga K C) f (He.ma K (He.ga K C) f) (gpa K (He.ga K C) f) := by
  unfold propB at h
  simp only [Bool.and_eq_true, decide_eq_true_eq] at h
  obtain ⟨h1, h2, h3, h4⟩ := h
  refine ⟨h1, h2, h3, ?_⟩
  unfold gpa
  split at h4
  · rename_i g r e
    rw [e]
    exact ⟨r, rfl⟩
  · cases h4
/-- a def where it stands -/
structure DefA where
  pl : PySem.W.Frag → Addr
  d : He.DefD
def seenA (K : PySem.W.Frag) (a : Addr) : He.FnW := match K.lookup a with
  | none => none
  | some z => match z.data with
    | .func u => some (u.name, u.qualname, u.params, u.body, u.scope, u.globals, u.closure, u.builtins)
    | _ => none
def goodA (K : PySem.W.Frag) (a : Addr) (d : He.DefD) : Bool := match K.lookup a with
  | none => false
  | some z => match z.data with
    | .func u => PySem.W.keepIn K (.ref a) && (PySem.W.codeIn K u.code d.qual && (He.dflB K u.defaults (d.dvs K) && He.kwdB K u.kwdefaults (d.kws K)))
    | _ => false
theorem funA {K : PySem.W.Frag} {a : Addr} {d : He.DefD} (e : seenA K a = d.val) (c : goodA K a d = true) : ∃ fd, FunD K d.name d.qual d.params d.body d.scope (d.dvs K) (d.kws K) a fd := by
  unfold seenA at e
  unfold goodA at c
  cases q : K.lookup a with
  | none =>
    rw [q] at c
    exact absurd c Bool.false_ne_true
  | some z =>
    obtain ⟨zc, zd, zt, zs⟩ := z
    rw [q] at c e
    cases zt with
    | func u =>
      simp only [Bool.and_eq_true] at c
      obtain ⟨c1, c2, c3, c4⟩ := c
      cases u
      simp only [He.DefD.val, Option.some.injEq, Prod.mk.injEq] at e
      obtain ⟨e1, e2, e3, e4, e5, e6, e7, e8⟩ := e
      subst e1 e2 e3 e4 e5 e6 e7 e8
      exact ⟨_, ⟨zc, zd, _, _, _, _, _, _, _, zs, rfl, q, c2, He.dflB_ok c3, He.kwdB_ok c4⟩, c1⟩
    | _ => exact absurd c Bool.false_ne_true
def obsA (fa : List He.Fa) (ex : List (PySem.W.Frag → Bool)) (fn : List DefA) (K : PySem.W.Frag) : He.AlD :=
  (fa.all (He.Fa.ok K) && (ex.all (fun f => f K) && fn.all fun x => goodA K (x.pl K) x.d), fn.map fun x => seenA K (x.pl K))
def wantA (fn : List DefA) : He.AlD := (true, fn.map fun x => x.d.val)
def SaysA (fa : List He.Fa) (ex : List (PySem.W.Frag → Bool)) (fn : List DefA) (K : PySem.W.Frag) : Prop := obsA fa ex fn K = wantA fn
def obsAG (n : Nat) (fa : List He.Fa) (ex : List (PySem.W.Frag → Bool)) (fn : List DefA) (g : Addr → Option Obj) : He.AlD := obsA fa ex fn (He.frG g (He.asD g n))
def hookA (n : Nat) (fa : List He.Fa) (ex : List (PySem.W.Frag → Bool)) (fn : List DefA) : PySem.W.Hook where
  α := He.AlD
  obs s := obsAG n fa ex fn s.heap.get?
  val _ := wantA fn
  says _ h := ∃ K : PySem.W.Frag, K.In h ∧ SaysA fa ex fn K
  of _ _ e := ⟨_, He.frG_in, e⟩
  keeps _ _ _ := fun ⟨K, hK, c⟩ k => ⟨K, PySem.W.Frag.In.keeps hK k, c⟩
theorem obsAG_eq {n : Nat} {fa : List He.Fa} {ex : List (PySem.W.Frag → Bool)} {fn : List DefA} {g : Addr → Option Obj} {s : Shared} (h : ∀ a, g a = s.heap.get? a) : obsAG n fa ex fn g = (hookA n fa ex fn).obs s := by
  have := funext h
  subst this
  rfl
section
variable {fa : List He.Fa} {ex : List (PySem.W.Frag → Bool)} {fn : List DefA} {K : PySem.W.Frag}
theorem SaysA.all (c : SaysA fa ex fn K) : fa.all (He.Fa.ok K) = true ∧ ex.all (fun f => f K) = true ∧ (fn.all fun x => goodA K (x.pl K) x.d) = true := by
  have h := congrArg Prod.fst c
  simp only [obsA, wantA, Bool.and_eq_true] at h
  exact h
theorem SaysA.fact (c : SaysA fa ex fn K) (i : Nat) {f : He.Fa} (h : fa[i]? = some f := by rfl) : f.ok K = true := List.all_eq_true.mp c.all.1 f (List.mem_of_getElem? h)
theorem SaysA.own (c : SaysA fa ex fn K) (i : Nat) {f : PySem.W.Frag → Bool} (h : ex[i]? = some f := by rfl) : f K = true := List.all_eq_true.mp c.all.2.1 f (List.mem_of_getElem? h)
theorem SaysA.df (c : SaysA fa ex fn K) (i : Nat) {x : DefA} (h : fn[i]? = some x := by rfl) : ∃ fd, FunD K x.d.name x.d.qual x.d.params x.d.body x.d.scope (x.d.dvs K) (x.d.kws K) (x.pl K) fd := by
  have e : (fn.map fun x => seenA K (x.pl K)) = fn.map fun x => x.d.val := congrArg Prod.snd c
  have e2 := congrArg (fun l => l[i]?) e
  simp only [List.getElem?_map, h, Option.map_some, Option.some.injEq] at e2
  exact funA e2 (List.all_eq_true.mp c.all.2.2 x (List.mem_of_getElem? h))
end
end WK
namespace WK
open PySem PySem.Spec PyProof.Rows L2
/-- what isinstance asks of an own class -/
structure IsC (K : PySem.W.Frag) (C : Addr) : Prop where
  ha : PySem.W.findIn K (.ref C) "__class__" = some (some (.builtin "object.__class__"))
  hn : PySem.W.specialIn K (.builtin "object.__class__") "__get__" = some (some (.builtin "getset_descriptor.__get__"))
  ht : PySem.W.takesIn K (.builtin "object.__class__") = some true
  hm : PySem.W.mroIn K C (.type "object") = some true
def isB (C : Str) (K : PySem.W.Frag) : Bool :=
  decide (PySem.W.findIn K (.ref (He.ga K C)) "__class__" = some (some (.builtin "object.__class__"))) && (decide (PySem.W.specialIn K (.builtin "object.__class__") "__get__" = some (some (.builtin "getset_descriptor.__get__"))) &&
  (decide (PySem.W.takesIn K (.builtin "object.__class__") = some true) && decide (PySem.W.mroIn K (He.ga K C) (.type "object") = some true)))
theorem isB_ok {K : PySem.W.Frag} {C : Str} (h : isB C K = true) : IsC K (He.ga K C) := by
  unfold isB at h
  simp only [Bool.and_eq_true, decide_eq_true_eq] at h
  exact ⟨h.1, h.2.1, h.2.2.1, h.2.2.2⟩
theorem IsC.ty {K : PySem.W.Frag} {C a dx : Addr} {H : Hp} {fs : List (Str × V)} (i : IsC K C) (c : Cls K C) (e : H a = some (.ins C dx fs)) : TyX K H (.ref a) (.ref C) := .base (.ins e c i.ha i.hn i.ht i.hm)
theorem kit_own {K : PySem.W.Frag} {C : Addr} : PySem.W.kitOne K (.ref C) (.ref C) = some true := by
  unfold PySem.W.kitOne
  rw [if_pos (by simp)]
end WK
/-! ## own classes, and more rules with the written part told apart -/
namespace WK
open PySem PySem.Spec PyProof.Rows L2
/-- a def at a place that keeps a promise -/
structure OkM (P : Program) (w : World) (K : PySem.W.Frag) (mg : Str → Option Value) (base : Heap) (C : CXT) (k : Nat) (a : Addr) (ps : List Str) (sp : Sp) : Prop where
  ex : ∃ fd, FnOk P w K mg base C k a fd ps sp ∧ Binds K fd ps []
theorem OkM.mk' {P : Program} {w : World} {K : PySem.W.Frag} {mg : Str → Option Value} {base : Heap} {C : CXT} {k : Nat} {x q : Str} {a : Addr} {N ps : List Str} {st : Stmt} {sp : Sp}
    (F : ∃ fd, FunD K x q (defArgs st) (defBody st) (defScope st) [] [] a fd) (S : FnScope N ps (defScope st)) (len : ∀ vs H Q E, sp vs H Q E → vs.length = ps.length)
    (hb : ∀ (kV doc pm : Value) (an : Option Addr) (cdv ct : Value) (us : List Value), us.length = ps.length → bindArgs (PySem.W.fnOf x q (defArgs st) (defBody st) (defScope st) .none kV doc pm an cdv ct) ⟨us, []⟩ = pure (ps.zip us))
    (go : ∀ (f : Addr) (cdv : Value) (A : Around) (outer : List Env) (s : Shared) (H : Hp) (vs : List V) (Q : VK) (E : XK), Room k (A.deeper (envOfC q (defScope st) s.heap.objs.size f cdv)) → sp vs H Q E →
      ∃ t, PSs (cxOf C P w K mg base N q (defScope st) f cdv A outer s H E) (defBody st) t ∧ t { nx := fun _ H' => Q .non H', rt := Q } (start N vs) H) : OkM P w K mg base C (k + 1) a ps sp :=
  let ⟨_, F⟩ := F
  ⟨⟨_, F.ok S len fun cdv A outer s H vs Q E => go _ cdv A outer s H vs Q E, F.bindsN hb⟩⟩
theorem OkM.mk0 {P : Program} {w : World} {K : PySem.W.Frag} {mg : Str → Option Value} {base : Heap} {k : Nat} {x q : Str} {a : Addr} {N ps : List Str} {st : Stmt} {sp : Sp}
    (F : ∃ fd, FunD K x q (defArgs st) (defBody st) (defScope st) [] [] a fd) (S : FnScope N ps (defScope st)) (len : ∀ vs H Q E, sp vs H Q E → vs.length = ps.length)
    (hb : ∀ (kV doc pm : Value) (an : Option Addr) (cdv ct : Value) (us : List Value), us.length = ps.length → bindArgs (PySem.W.fnOf x q (defArgs st) (defBody st) (defScope st) .none kV doc pm an cdv ct) ⟨us, []⟩ = pure (ps.zip us))
    (go : ∀ (f : Addr) (cdv : Value) (A : Around) (outer : List Env) (s : Shared) (H : Hp) (vs : List V) (Q : VK) (E : XK), Room k (A.deeper (envOfC q (defScope st) s.heap.objs.size f cdv)) → sp vs H Q E →
      ∃ t, PSs (cxOf CX0 P w K mg base N q (defScope st) f cdv A outer s H E).nox (defBody st) t ∧ t { nx := fun _ H' => Q .non H', rt := Q } (start N vs) H) : OkM P w K mg base CX0 (k + 1) a ps sp :=
  OkM.mk' F S len hb fun f cdv A outer s H vs Q E hr h =>
    let ⟨t, h1, h2⟩ := go f cdv A outer s H vs Q E hr h
    ⟨t, h1.nox, h2⟩
def tMk (C : Addr) (sp : Sp) (E : XK) (t : TA) : TE := fun σ H Q => t σ H fun vs H1 => ∀ x dx, H1 x = none → H1 dx = none → dx ≠ x → sp (.ref x :: vs) (upd (upd H1 dx (.own x)) x (.ins C dx [])) (fun v H2 => v = .non ∧ Q (.ref x) H2) E
def tPrp (C : Addr) (sp : Sp) (E : XK) (ta : TE) : TE := fun σ H Q => ta σ H fun x H1 => ∃ a dx fs, x = .ref a ∧ H1 a = some (.ins C dx fs) ∧ sp [.ref a] H1 Q E
def tMt (C : Addr) (m : Str) (sp : Sp) (E : XK) (ta : TE) (t : TA) : TE := fun σ H Q => ta σ H fun x H1 => ∃ a dx fs, x = .ref a ∧ H1 a = some (.ins C dx fs) ∧ fs.lookup m = none ∧ t σ H1 fun vs H2 => sp (.ref a :: vs) H2 Q E
section
variable {X : Cx} {k j : Nat} {C f p : Addr} {ps : List Str} {sp : Sp} {x m : Str} {np pos apos : Pos} {e o : Expr} {es : List Expr} {t : TA} {ta : TE}
theorem mkO (O : OkM X.prog X.w X.K X.mg X.base CX0 k f ps sp) (M : Mk X.K C f) (hm : X.mg x = some (.ref C)) (hr : Room j X.A) (ha : PA X (e :: es) t) (hj : k + 1 ≤ j := by first | decide | omega) (hg : Gl X x := by rfl) (hdb : (x == ("__debug__" : Str)) = false := by decide)
    (he : starEach (e :: es) X.env = (false, eval e X.env) :: starEach es X.env := by rfl) (hpl : (backTo pos (starEach es X.env)).any (·.1) = false := by rfl) : PE X (.Call (.Name x np) (e :: es) [] pos) (tMk C sp E0 t) := by
  obtain ⟨fd, F, B⟩ := O.ex
  have r := pe_make (p := np) (dvs := []) M F (hr.mono hj) hg hm B .nil pass0 ha hdb he hpl
  refine ⟨fun pins s σ H Q I h => r.run pins s σ H Q I ?_⟩
  unfold tMake
  simp only [List.append_nil]
  exact h
theorem prO (O : OkM X.prog X.w X.K X.mg X.base CX0 k f ps sp) (c : Cls X.K C) (hp : PropOf X.K C m p f) (hr : Room j X.A) (he : PE X o ta) (hj : k + 1 ≤ j := by first | decide | omega) (hab : attributeBase o m X.env (eval o X.env) = eval o X.env := by rfl) : PE X (.Attribute o m pos) (tPrp C sp E0 ta) := by
  obtain ⟨fd, F, B⟩ := O.ex
  exact pe_prop (dvs := []) he c hp F (hr.mono hj) B .nil pass0 hab
theorem pe_dead {X : Cx} {e : Expr} : PE X e (fun _ _ _ => False) := ⟨fun _ _ _ _ _ _ h => h.elim⟩
/-! ### rules, the written part told apart -/
theorem fldK (K : PySem.W.Frag) (he : PE X o ta) (h : X.K = K := by rfl) (hb : attributeBase o m X.env (eval o X.env) = eval o X.env := by rfl) : PE X (.Attribute o m pos) (tFld K ta m) := by
  subst h
  exact pe_fld he hb
theorem sfldK (K : PySem.W.Frag) {value : Expr} {tv : TE} {pos' : Pos} (ha : PE X o ta) (hv : PE X value tv) (h : X.K = K := by rfl) (hs : swapsWith value (some (.Attribute o m pos')) pos.line X.env = pure false := by rfl) : PS X (.Assign [.Attribute o m pos'] value pos) (sFld K ta tv m) := by
  subst h
  exact ps_fld ha hv hs
def rListU (K : PySem.W.Frag) : List V → Hp → VK → Prop := fun xs H Q => ∃ p ys, xs = [.ref p] ∧ (SqL K H p ys ∨ SqT K H p ys) ∧ ∀ l, H l = none → Q (.ref l) (upd H l (.lst ys))
theorem listOf (K : PySem.W.Frag) (h : X.K = K := by rfl) : CallR X (.type "list") (rListU K) := by
  subst h
  exact call_list_of
def rTupU (K : PySem.W.Frag) : List V → Hp → VK → Prop := fun xs H Q => ∃ p ys, xs = [.ref p] ∧ SqL K H p ys ∧ ∀ l, H l = none → Q (.ref l) (upd H l (.tup ys))
theorem tupleOf (K : PySem.W.Frag) (h : X.K = K := by rfl) : CallR X (.type "tuple") (rTupU K) := by
  subst h
  exact fun pins s σ H xs us Q I r h => call_tuple_of pins s σ H xs us Q I r (let ⟨p, ys, e, h1, h2⟩ := h; ⟨p, ys, e, .inl ⟨h1, h2⟩⟩)
theorem catT (K : PySem.W.Frag) (h : X.K = K := by rfl) : OpR X (binaryOp .Add) (rCatT K) := by
  subst h
  exact op_catT
theorem slT (K : PySem.W.Frag) (h : X.K = K := by rfl) : SlR X (rSlT K) := by
  subst h
  exact sl_tup
theorem slL (K : PySem.W.Frag) (h : X.K = K := by rfl) : SlR X (rSlL K) := by
  subst h
  exact sl_list
def rJn (K : PySem.W.Frag) : V → List V → Hp → VK → Prop := fun x xs H Q => ∃ a p, ∃ ys : List Str, x = .str a ∧ xs = [.ref p] ∧ SqL K H p (ys.map V.str) ∧ (ys.map (·.length)).sum + ys.length * a.length ≤ 16777216 ∧ Q (.str (Txt.join a ys)) H
theorem mtJoin (K : PySem.W.Frag) (h : X.K = K := by rfl) : MtR X "str.join" (rJn K) := by
  subst h
  exact fun pins s σ H x xs v us Q I rx rs h => mt_join pins s σ H x xs v us Q I rx rs (let ⟨a, p, ys, e1, e2, e3, e4, q⟩ := h; ⟨a, p, ys, e1, e2, .inl e3, e4, q⟩)
end
end WK
namespace WK
open PySem PySem.Spec PyProof.Rows L2
theorem tyv_s {K : PySem.W.Frag} {z : Str} {H : Hp} : tyV K "str" (.str z) H = True := eq_true rfl
theorem tyv_l {K : PySem.W.Frag} {p : Addr} {H : Hp} {xs : List V} (h : H p = some (.lst xs)) : tyV K "list" (.ref p) H := .inl ⟨rfl, xs, .inl (.inl h)⟩
theorem app_eq {x : V} {vs : List V} {H : Hp} {Q : VK} : rAppend x vs H Q = ∃ l xs y, x = .ref l ∧ vs = [y] ∧ H l = some (.lst xs) ∧ xs.length < sizeLine ∧ Q .non (upd H l (.lst (xs ++ [y]))) := rfl
end WK
namespace WK
open PySem PySem.Spec PyProof.Rows L2
theorem inSeq {X : Cx} (K : PySem.W.Frag) (h : X.K = K := by rfl) : OpR X (compareOp .In) (rIn K false) := by
  subst h
  exact op_in_seq
theorem notInSeq {X : Cx} (K : PySem.W.Frag) (h : X.K = K := by rfl) : OpR X (compareOp .NotIn) (rIn K true) := by
  subst h
  exact op_notIn_seq
theorem sortI {X : Cx} (K : PySem.W.Frag) (h : X.K = K := by rfl) : CallR X (.builtin "sorted") (rSortedI K) := by
  subst h
  exact cr_sortedI
end WK
namespace WK
open PySem PySem.Spec PyProof.Rows L2
theorem bmK {X : Cx} {o e : Expr} {es : List Expr} {to : TE} {t : TA} {name : Str} {apos cpos : Pos} {T id : String} {r : V → List V → Hp → VK → Prop} (K : PySem.W.Frag) (pa : PlainAttrs T) (slot : Slot T name id) (hty : typeOf (.builtin id) = pure (.type "method_descriptor")) (hm : MtR X id r) (ho : PE X o to) (ha : PA X (e :: es) t)
    (h : X.K = K := by rfl) (hbase : attributeBase o name X.env (eval o X.env) = eval o X.env := by rfl)
    (few : ((backTo cpos (starEach (e :: es) X.env)).all (fun x => !x.1) && (backToKw cpos (keywordEach [] X.env)).all (fun x => x.1.isSome) && decide ((e :: es).length + ([] : List Keyword).length + (if ([] : List Keyword).isEmpty then 0 else 1) < 30)) = true := by rfl)
    (line : (apos.endLine == cpos.line) = true := by rfl) (hs : starEach (e :: es) X.env = (false, eval e X.env) :: starEach es X.env := by rfl) (plain : (backTo cpos (starEach es X.env)).any (·.1) = false := by rfl) :
    PE X (.Call (.Attribute o name apos) (e :: es) [] cpos) (tBM K T r to t) := by
  subst h
  exact pe_bm pa slot hty hm ho ha hbase few line hs plain
end WK
/-! ## texts of signs -/
namespace WK
open PySem PySem.Spec PyProof.Rows L2
/-- the text of these signs -/
def sg (l : List Nat) : Str := ⟨l.toArray⟩
theorem sg_cps (l : List Nat) : (sg l).cps.toList = l := by simp [sg]
theorem sg_len (l : List Nat) : (sg l).length = l.length := by
  show l.toArray.size = _
  simp
theorem sg_app (a b : List Nat) : sg a ++ sg b = sg (a ++ b) := by
  show (⟨a.toArray ++ b.toArray⟩ : Str) = ⟨(a ++ b).toArray⟩
  simp
theorem sg_inj {a b : List Nat} : sg a = sg b ↔ a = b := by
  constructor
  · intro h
    have := congrArg (fun s : Str => s.cps.toList) h
    rw [sg_cps, sg_cps] at this
    exact this
  · intro h
    rw [h]
/-- one sign counted -/
theorem occ_run (x : Str) (c limit : Nat) : ∀ (l : List Nat) (st : Array Nat × Nat), (∀ i ∈ l, st.2 ≤ i) → l.Pairwise (· < ·) →
    (forIn l st (PySem.StrLaws.occBody x ⟨#[c]⟩ x.length limit)).run.fst.toList = st.1.toList ++ (l.filter fun i => x.cps.toList[i]? == some c).take (limit - st.1.size)
  | [], st, _, _ => by simp
  | i :: l, st, hf, hp => by
    rw [List.forIn_cons]
    have hi := hf i List.mem_cons_self
    obtain ⟨hp1, hp2⟩ := List.pairwise_cons.mp hp
    have key := PySem.StrLaws.subAt_one x c i
    unfold PySem.StrLaws.occBody
    by_cases z : x.cps.toList[i]? = some c
    · have kz := key.mpr z
      by_cases y : st.1.size < limit
      · rw [if_pos ⟨⟨⟨y, hi⟩, kz.1⟩, kz.2⟩]
        have ih := occ_run x c limit l (st.1.push i, i + (⟨#[c]⟩ : Str).length) (fun j hj => hp1 j hj) hp2
        have e := ih
        show (forIn l (st.1.push i, i + (⟨#[c]⟩ : Str).length) (PySem.StrLaws.occBody x ⟨#[c]⟩ x.length limit)).run.fst.toList = _
        rw [e, List.filter_cons, if_pos (by rw [z]; exact beq_self_eq_true _)]
        have hl : limit - st.1.size = (limit - (st.1.push i).size) + 1 := by
          rw [Array.size_push]
          omega
        rw [hl, List.take_succ_cons, Array.toList_push, List.append_assoc]
        rfl
      · rw [if_neg fun w => y w.1.1.1]
        have ih := occ_run x c limit l st (fun j hj => hf j (List.mem_cons_of_mem _ hj)) hp2
        show (forIn l st (PySem.StrLaws.occBody x ⟨#[c]⟩ x.length limit)).run.fst.toList = _
        rw [ih, show limit - st.1.size = 0 by omega, List.take_zero, List.take_zero]
    · rw [if_neg fun w => z (key.mp ⟨w.1.2, w.2⟩)]
      have ih := occ_run x c limit l st (fun j hj => hf j (List.mem_cons_of_mem _ hj)) hp2
      show (forIn l st (PySem.StrLaws.occBody x ⟨#[c]⟩ x.length limit)).run.fst.toList = _
      rw [ih, List.filter_cons, if_neg (by rw [beq_iff_eq]; exact z)]
theorem occ_sign (x : Str) (c limit : Nat) : Builtin.Str.occurrences x ⟨#[c]⟩ 0 x.length limit = ((List.range (x.length + 1)).filter fun i => x.cps.toList[i]? == some c).take limit := by
  rw [PySem.StrLaws.occ_eq, occ_run x c limit _ _ (fun _ _ => Nat.zero_le _) (by simpa using List.pairwise_lt_range' (s := 0) (n := x.length + 1))]
  simp [List.range_eq_range']
theorem filter_count (l : List Nat) (c : Nat) : ∀ k : Nat, ((List.range k).filter fun i => l[i]? == some c).length = (l.take k).count c
  | 0 => rfl
  | k + 1 => by
    rw [List.range_succ, List.filter_append, List.length_append, filter_count l c k, List.take_add_one, List.count_append]
    congr 1
    cases h : l[k]? with
    | none => simp [h]
    | some d =>
      by_cases e : d = c
      · simp [h, e]
      · simp [h, e]
theorem count_sign (l : List Nat) (c : Nat) : Txt.count (sg l) ⟨#[c]⟩ = (l.count c : Nat) := by
  unfold Txt.count
  rw [occ_sign, List.take_of_length_le, filter_count, sg_cps, sg_len, List.take_of_length_le (by omega)]
  refine Nat.le_trans (List.length_filter_le _ _) ?_
  rw [List.length_range]
  exact Nat.le_refl _
/-! ### a text some times -/
def rMulS : V → V → Hp → VK → Prop := fun x y H Q => ∃ z n, x = .str z ∧ y = .int n ∧ MulOk z n ∧ Q (.str (Txt.mul z n)) H
theorem op_mul_str {X : Cx} : OpR X (binaryOp .Mult) rMulS := by
  rintro pins s σ H x y v u Q I rx ry ⟨z, n, rfl, rfl, hm, q⟩
  obtain ⟨t, rfl⟩ := rx
  obtain ⟨t2, rfl⟩ := ry
  exact PySem.SB.mul hm fun t3 k => ⟨.str (Txt.mul z n), H, I.tok k, ⟨t3, rfl⟩, q⟩
theorem fold_rep (c : Nat) : ∀ (n : Nat) (a : Array Nat), ((List.replicate n #[c]).foldl (· ++ ·) a).toList = a.toList ++ List.replicate n c
  | 0, a => by simp
  | n + 1, a => by
    rw [List.replicate_succ, List.foldl_cons, fold_rep c n]
    simp [List.replicate_succ]
theorem mul_sign {c n : Nat} (h : 1 ≤ n) : Txt.mul ⟨#[c]⟩ (n : Int) = sg (List.replicate n c) := by
  unfold Txt.mul
  rw [if_neg (by omega)]
  by_cases e : n = 1
  · rw [e]
    rfl
  · rw [if_neg (by
      have : ((n : Int) == 1) = false := by rw [beq_eq_false_iff_ne]; omega
      rw [this]
      show ¬ (false || decide ((1 : Nat) = 0)) = true
      decide)]
    show (⟨_⟩ : Str) = ⟨_⟩
    congr 1
    apply Array.toList_inj.mp
    rw [Int.toNat_natCast, fold_rep]
    simp
theorem mul_sign_ok {c n : Nat} (h2 : n ≤ 1000) : MulOk ⟨#[c]⟩ (n : Int) := by
  refine ⟨?_, fun _ _ => ?_, fun _ _ => ?_⟩
  · rw [Bool.or_eq_false_iff]
    exact ⟨decide_eq_false (by omega), decide_eq_false (by omega)⟩
  · intro z
    have z2 : (1 : Int) > (2 ^ 63 - 1) / n := z
    rcases Nat.eq_zero_or_pos n with e | e
    · omega
    · have := (Int.ediv_lt_iff_lt_mul (a := 2 ^ 63 - 1) (b := 1) (c := (n : Int)) (by omega)).mp z2
      omega
  · unfold Builtin.Str.tooLong
    rw [Int.toNat_natCast]
    show decide _ = false
    apply decide_eq_false
    have : (⟨#[c]⟩ : Str).length = 1 := rfl
    rw [this, sizeLine_eq]
    omega
end WK
namespace WK
open PySem PySem.Spec PyProof.Rows L2
theorem at_nat {α : Type} {xs : List α} {j : Nat} {v : α} {z : Int} (e : z = (j : Int)) (h : xs[j]? = some v) : atI xs z = some v := by
  obtain ⟨hl, _⟩ := List.getElem?_eq_some_iff.mp h
  unfold atI ixN
  rw [e, if_pos (by omega), if_pos (by omega), Int.toNat_natCast]
  exact h
theorem cut_sg (a b c : List Nat) {i j : Int} (hi : i = (a.length : Int)) (hj : j = ((a.length + b.length : Nat) : Int)) : cutS (sg (a ++ b ++ c)) (some i) (some j) = sg b := by
  subst hi hj
  unfold cutS
  rw [HT.sIx_nat, HT.sIx_nat, sg_len, sg_cps]
  have l : (a ++ b ++ c).length = a.length + b.length + c.length := by rw [List.length_append, List.length_append]
  rw [l, show min a.length (a.length + b.length + c.length) = a.length by omega, show min (a.length + b.length) (a.length + b.length + c.length) = a.length + b.length by omega]
  rw [List.append_assoc, List.drop_left, show a.length + b.length - a.length = b.length by omega, List.take_left]
  rfl
theorem glue_sg : ∀ (ls : List (List Nat)), Txt.join "" (ls.map sg) = sg ls.flatten := by
  have h : ∀ (ls : List (List Nat)) (a : Array Nat), ((ls.map sg).foldl (fun acc p => acc ++ ("" : Str).cps ++ p.cps) a).toList = a.toList ++ ls.flatten := by
    intro ls
    induction ls with
    | nil =>
      intro a
      simp
    | cons l ls ih =>
      intro a
      rw [List.map_cons, List.foldl_cons, ih]
      have e : ("" : Str).cps = #[] := rfl
      rw [e]
      simp [sg]
  intro ls
  cases ls with
  | nil => rfl
  | cons l ls =>
    show (⟨_⟩ : Str) = ⟨_⟩
    congr 1
    apply Array.toList_inj.mp
    have := h ls (sg l).cps
    simp only [List.map_cons, List.drop_succ_cons, List.drop_zero, List.headD_cons]
    rw [this, sg_cps]
    simp
/-- signs -/
theorem sg1 (c : Nat) : (⟨#[c]⟩ : Str) = sg [c] := rfl
def IsDig (d : Nat) : Prop := 48 ≤ d ∧ d ≤ 57
theorem dig_iff (c : Nat) : c ∈ ("0123456789" : Str).cps.toList ↔ IsDig c := by
  have e : ("0123456789" : Str).cps.toList = [48, 49, 50, 51, 52, 53, 54, 55, 56, 57] := by decide +kernel
  rw [e]
  unfold IsDig
  simp only [List.mem_cons, List.not_mem_nil, or_false]
  omega
theorem abcd_iff (c : Nat) : c ∈ ("abcd" : Str).cps.toList ↔ 97 ≤ c ∧ c ≤ 100 := by
  have e : ("abcd" : Str).cps.toList = [97, 98, 99, 100] := by decide +kernel
  rw [e]
  simp only [List.mem_cons, List.not_mem_nil, or_false]
  omega
theorem sign_eq {c d : Nat} : ((⟨#[c]⟩ : Str) = ⟨#[d]⟩) ↔ c = d := by
  constructor
  · intro h
    have := congrArg (fun s : Str => s.cps.toList) h
    simpa using this
  · intro h
    rw [h]
end WK
namespace WK
open PySem PySem.Spec PyProof.Rows L2 RZ
/-! ### zip of two lists, of two tuples -/
theorem piZip {X : Cx} (K : PySem.W.Frag) {e e2 : Expr} {ta : TA} {p pos tpos : Pos} {elts : List Expr} {kk : Nat} (hm : X.mg "zip" = none) (ha : PA X [e, e2] ta) (h : X.K = K := by rfl) (hg : Gl X "zip" := by rfl)
    (h1 : starEach [e, e2] X.env = (false, eval e X.env) :: starEach [e2] X.env := by rfl) (h2 : (backTo pos (starEach [e2] X.env)).any (·.1) = false := by rfl) : PI X (.Tuple elts kk tpos) (.Call (.Name "zip" p) [e, e2] [] pos) (iZipA K ta) := by
  subst h
  exact pi_zipA hg hm ha h1 h2
theorem walk_zipT {K : PySem.W.Frag} {a b : Addr} {xs ys : List V} {n : Nat} (hn : n = min xs.length ys.length) : Walk (ItzT K a b) n (fun H => SqT K H a xs ∧ SqT K H b ys) (YPair (fun i => xs[i]?) (fun i => ys[i]?)) := by
  subst hn
  refine ⟨fun i _ hi q => ⟨xs, ys, xs[i]'(by omega), ys[i]'(by omega), q.1, q.2, List.getElem?_eq_getElem _, List.getElem?_eq_getElem _⟩, fun _ q => ⟨xs, ys, q.1, q.2, by omega⟩, fun i H v H' _ q y => ?_⟩
  obtain ⟨T, x, z, e, nT, eH, g1, g2⟩ := y
  exact ⟨T, x, z, e, nT, eH, g1 xs q.1, g2 ys q.2⟩
end WK
namespace WK
open PySem PySem.Spec PyProof.Rows L2 RZ
/-- zip of two tuples, of two lists alone -/
def iZipT (K : PySem.W.Frag) (ta : TA) : TI := fun σ H R => ta σ H fun vs H1 => ∃ a b xs ys, vs = [.ref a, .ref b] ∧ SqT K H1 a xs ∧ SqT K H1 b ys ∧ R (ItzT K a b) H1
def iZipL (K : PySem.W.Frag) (ta : TA) : TI := fun σ H R => ta σ H fun vs H1 => ∃ a b xs ys, vs = [.ref a, .ref b] ∧ SqL K H1 a xs ∧ SqL K H1 b ys ∧ R (Itz K a b) H1
theorem pa_wk {X : Cx} {es : List Expr} {t : TA} (h : PA X es t) : PA X es (fun σ H Q => ∃ P, t σ H P ∧ ∀ vs H', P vs H' → Q vs H') := by
  refine ⟨fun pos pins s σ H Q I hh => ?_⟩
  obtain ⟨P, hp, w⟩ := hh
  exact thn (h.run pos pins s σ H P I hp) fun us s1 ⟨vs, H1, I1, r, q⟩ => ⟨vs, H1, I1, r, w _ _ q⟩
section
variable {X : Cx} (K : PySem.W.Frag) {e e2 : Expr} {ta : TA} {p pos tpos : Pos} {elts : List Expr} {kk : Nat}
theorem piZipT (hm : X.mg "zip" = none) (ha : PA X [e, e2] ta) (h : X.K = K := by rfl) (hg : Gl X "zip" := by rfl)
    (h1 : starEach [e, e2] X.env = (false, eval e X.env) :: starEach [e2] X.env := by rfl) (h2 : (backTo pos (starEach [e2] X.env)).any (·.1) = false := by rfl) : PI X (.Tuple elts kk tpos) (.Call (.Name "zip" p) [e, e2] [] pos) (iZipT K ta) := by
  have q := piZip (p := p) (elts := elts) (kk := kk) (tpos := tpos) K hm (pa_wk ha) h hg h1 h2
  refine ⟨fun pins s σ H R I hh => q.run pins s σ H R I ?_⟩
  refine ⟨_, hh, fun vs H' w => ?_⟩
  obtain ⟨a, b, xs, ys, e1, e2, e3, e4⟩ := w
  exact ⟨a, b, xs, ys, e1, .inr ⟨e2, e3, e4⟩⟩
theorem piZipL (hm : X.mg "zip" = none) (ha : PA X [e, e2] ta) (h : X.K = K := by rfl) (hg : Gl X "zip" := by rfl)
    (h1 : starEach [e, e2] X.env = (false, eval e X.env) :: starEach [e2] X.env := by rfl) (h2 : (backTo pos (starEach [e2] X.env)).any (·.1) = false := by rfl) : PI X (.Tuple elts kk tpos) (.Call (.Name "zip" p) [e, e2] [] pos) (iZipL K ta) := by
  have q := piZip (p := p) (elts := elts) (kk := kk) (tpos := tpos) K hm (pa_wk ha) h hg h1 h2
  refine ⟨fun pins s σ H R I hh => q.run pins s σ H R I ?_⟩
  refine ⟨_, hh, fun vs H' w => ?_⟩
  obtain ⟨a, b, xs, ys, e1, e2, e3, e4⟩ := w
  exact ⟨a, b, xs, ys, e1, .inl ⟨e2, e3, e4⟩⟩
end
end WK
/-! ## rows of refs to tuples that stand still -/
namespace WK
open PySem PySem.Spec PyProof.Rows L2
def TupsAt (H : Hp) (xs : List V) (ts : List (List V)) : Prop := xs.length = ts.length ∧ ∀ (j : Nat) (x : V) (t : List V), xs[j]? = some x → ts[j]? = some t → ∃ a, x = .ref a ∧ H a = some (.tup t)
theorem TupsAt.nil {H : Hp} : TupsAt H [] [] := ⟨rfl, fun _ _ _ h => by cases h⟩
theorem TupsAt.same {H H' : Hp} {xs : List V} {ts : List (List V)} (h : TupsAt H xs ts) (s : Same H H') : TupsAt H' xs ts := ⟨h.1, fun j x t hx ht => by
  obtain ⟨a, e, ha⟩ := h.2 j x t hx ht
  exact ⟨a, e, s _ _ ha⟩⟩
theorem TupsAt.but {H H' : Hp} {xs zs : List V} {ts : List (List V)} {D : Addr} (h : TupsAt H xs ts) (b : But D H H') (hD : H D = some (.lst zs)) : TupsAt H' xs ts := ⟨h.1, fun j x t hx ht => by
  obtain ⟨a, e, ha⟩ := h.2 j x t hx ht
  refine ⟨a, e, b _ _ (fun z => ?_) ha⟩
  rw [z, hD] at ha
  cases ha⟩
theorem TupsAt.put {H : Hp} {xs zs : List V} {ts : List (List V)} {D : Addr} {o : HO} (h : TupsAt H xs ts) (hD : H D = some (.lst zs)) : TupsAt (upd H D o) xs ts := h.but (But.refl.at) hD
theorem TupsAt.app {H : Hp} {xs ys : List V} {ts us : List (List V)} (h : TupsAt H xs ts) (g : TupsAt H ys us) : TupsAt H (xs ++ ys) (ts ++ us) := by
  refine ⟨by rw [List.length_append, List.length_append, h.1, g.1], fun j x t hx ht => ?_⟩
  by_cases hj : j < xs.length
  · rw [List.getElem?_append_left hj] at hx
    rw [List.getElem?_append_left (by rw [← h.1]; exact hj)] at ht
    exact h.2 j x t hx ht
  · rw [List.getElem?_append_right (by omega)] at hx
    rw [List.getElem?_append_right (by rw [← h.1]; omega), ← h.1] at ht
    exact g.2 _ x t hx ht
theorem TupsAt.one {H : Hp} {a : Addr} {t : List V} (h : H a = some (.tup t)) : TupsAt H [.ref a] [t] := ⟨rfl, fun j x u hx hu => by
  cases j with
  | zero =>
    cases hx
    cases hu
    exact ⟨a, rfl, h⟩
  | succ j => cases hx⟩
theorem TupsAt.snoc {H : Hp} {xs : List V} {ts : List (List V)} {a : Addr} {t : List V} (h : TupsAt H xs ts) (ha : H a = some (.tup t)) : TupsAt H (xs ++ [.ref a]) (ts ++ [t]) := h.app (.one ha)
theorem TupsAt.get {H : Hp} {xs : List V} {ts : List (List V)} {j : Nat} {x : V} (h : TupsAt H xs ts) (hx : xs[j]? = some x) : ∃ a t, x = .ref a ∧ ts[j]? = some t ∧ H a = some (.tup t) := by
  obtain ⟨hl, _⟩ := List.getElem?_eq_some_iff.mp hx
  rw [h.1] at hl
  obtain ⟨a, e, ha⟩ := h.2 j x _ hx (List.getElem?_eq_getElem hl)
  exact ⟨a, _, e, List.getElem?_eq_getElem hl, ha⟩
theorem _root_.L2.Same.keepT {H H' : Hp} {p : Addr} {t : List V} (x : Same H H') (h : H p = some (.tup t)) : H' p = some (.tup t) := x _ _ h
theorem But.keepT {D p : Addr} {H H' : Hp} {t zs : List V} (x : But D H H') (hD : H D = some (.lst zs)) (h : H p = some (.tup t)) : H' p = some (.tup t) := x _ _ (fun z => by rw [z, hD] at h; cases h) h
theorem int_list_ext {xs : List V} {ns : List Int} (h1 : xs.length = ns.length) (h2 : ∀ j x, xs[j]? = some x → x = V.int (ns.getD j 0)) : xs = ns.map V.int := by
  apply List.ext_getElem?
  intro j
  by_cases hj : j < ns.length
  · rw [List.getElem?_map, List.getElem?_eq_getElem hj, List.getElem?_eq_getElem (by omega), h2 j _ (List.getElem?_eq_getElem (by omega)), List.getD_eq_getElem?_getD, List.getElem?_eq_getElem hj]
    rfl
  · rw [List.getElem?_eq_none (by omega), List.getElem?_eq_none (by rw [List.length_map]; omega)]
theorem ints_at {ns : List Int} {k : Nat} (h : k < ns.length) : (ns.map V.int)[k]? = some (V.int (ns.getD k 0)) := by
  rw [List.getElem?_map, List.getElem?_eq_getElem h, List.getD_eq_getElem?_getD, List.getElem?_eq_getElem h]
  rfl
end WK
namespace WK
open PySem PySem.Spec PyProof.Rows L2
theorem But.mine {a p : Addr} {H H' : Hp} {o : HO} (x : But a H H') (np : H p = none) : But a H (upd H' p o) := fun b u n h => by
  rw [upd_ne (ne_of_none h np)]
  exact x b u n h
theorem lst_ne {H : Hp} {p a : Addr} {xs : List V} {o : HO} (np : H p = none) (h : H a = some o) : p ≠ a := fun e => by
  rw [e, h] at np
  cases np
end WK
namespace WK
open PySem PySem.Spec PyProof.Rows L2
theorem sqT_new {K : PySem.W.Frag} {H : Hp} {p t : Addr} {xs : List V} {o : HO} (h : SqT K H t xs) (np : H p = none) : SqT K (upd H p o) t xs := (same_new np).sqT h
end WK
namespace WK
open PySem PySem.Spec PyProof.Rows L2
theorem atI_ints {ns : List Int} {c : Int} (h0 : 0 ≤ c) (h1 : c < ns.length) : ∃ v, v ∈ ns ∧ atI (ns.map V.int) c = some (V.int v) := by
  have hk : c.toNat < ns.length := by omega
  refine ⟨ns[c.toNat], List.getElem_mem hk, ?_⟩
  refine at_nat (j := c.toNat) (by omega) ?_
  rw [List.getElem?_map, List.getElem?_eq_getElem hk]
  rfl
theorem getD_snoc_lt {cs : List Int} {v : Int} {k : Nat} (h : k < cs.length) : (cs ++ [v]).getD k 0 = cs.getD k 0 := by
  rw [List.getD_eq_getElem?_getD, List.getD_eq_getElem?_getD, List.getElem?_append_left h]
theorem getD_snoc_eq {cs : List Int} {v : Int} {k : Nat} (h : k = cs.length) : (cs ++ [v]).getD k 0 = v := by
  rw [List.getD_eq_getElem?_getD, h, List.getElem?_append_right (Nat.le_refl _), Nat.sub_self]
  rfl
end WK
/-! ## the sum of a tuple -/
namespace WK
open PySem PySem.Spec PyProof.Rows L2
def rSumT (K : PySem.W.Frag) : List V → Hp → VK → Prop := fun vs H Q => ∃ (a : Addr) (ns : List Int), vs = [V.ref a] ∧ SqT K H a (ns.map V.int) ∧ Q (.int ns.sum) H
theorem sumT {X : Cx} (K : PySem.W.Frag) (hc : X.calm = true := by rfl) (h : X.K = K := by rfl) : CallR X (.builtin "sum") (rSumT K) := by
  subst h
  intro pins s σ H vs us Q I r h
  obtain ⟨a, ns, rfl, hs, q⟩ := h
  obtain ⟨its, rv, hl, _⟩ := I.tuple hs
  rw [Vals.ref1 r]
  obtain ⟨xs, hx⟩ := rv.ints.allInts.items
  have hn : numsOf its.toArray.toList = ns := by rw [show its.toArray.toList = its from rfl, rv.ints.numsOf]
  rw [hx] at hl hn
  rw [nums_intItems] at hn
  refine PySem.W.ktm_sumG (I.ok.hd hc) hl fun h' tk t' hk => ?_
  refine ⟨.int _, H, I.kept hk, ⟨t', ?_⟩, q⟩
  rw [preSum_eq, List.take_of_length_le (by simp), hn]
theorem cxK {C : CXT} {P : Program} {w : World} {K : PySem.W.Frag} {mg : Str → Option Value} {base : Heap} {N : List Str} {q : Str} {sc : Scope} {f : Addr} {cd : Value} {A : Around} {outer : List Env} {s : Shared} {H : Hp} {E : XK} : (cxOf C P w K mg base N q sc f cd A outer s H E).K = K := rfl
theorem cxnK {C : CXT} {P : Program} {w : World} {K : PySem.W.Frag} {mg : Str → Option Value} {base : Heap} {N : List Str} {q : Str} {sc : Scope} {f : Addr} {cd : Value} {A : Around} {outer : List Env} {s : Shared} {H : Hp} {E : XK} : (cxOf C P w K mg base N q sc f cd A outer s H E).nox.K = K := rfl
end WK
/-! ## weaves, keys, cells: what needs no program -/
namespace WK
open PySem PySem.Spec PyProof.Rows L2
section
variable {K : PySem.W.Frag}
abbrev Br3 (o : HO) (n : Nat) : Prop := ∃ x y z : Int, o = .lst [.int x, .int y, .int z] ∧ 0 ≤ x ∧ 0 ≤ y ∧ y < 2 ^ 160 ∧ 0 ≤ z ∧ z ≤ (n : Int)
def Br (a : Addr) (n : Nat) (H : Hp) : Prop := ∃ o, H a = some o ∧ Br3 o n
theorem Br.mono {a : Addr} {n m : Nat} {H : Hp} (h : Br a n H) (l : n ≤ m) : Br a m H := by
  obtain ⟨o, h1, x, y, z, e, h2, h3, h4, h5, h6⟩ := h
  exact ⟨o, h1, x, y, z, e, h2, h3, h4, h5, by omega⟩
theorem Br3.mono {o : HO} {n m : Nat} (h : Br3 o n) (l : n ≤ m) : Br3 o m := by
  obtain ⟨x, y, z, e, h2, h3, h4, h5, h6⟩ := h
  exact ⟨x, y, z, e, h2, h3, h4, h5, by omega⟩
theorem Br.ne {K : PySem.W.Frag} {a : Addr} {n : Nat} {H : Hp} (h : Br a n H) : ∃ zs, H a = some (.lst zs) := by
  obtain ⟨o, h1, x, y, z, e, _⟩ := h
  exact ⟨_, by rw [h1, e]⟩
theorem Br.put {a : Addr} {n : Nat} {H : Hp} {o : HO} (h : Br3 o n) : Br a n (upd H a o) := ⟨o, upd_same, h⟩
theorem Br.new {a p : Addr} {n : Nat} {H : Hp} {o : HO} (h : Br a n H) (np : H p = none) : Br a n (upd H p o) := by
  obtain ⟨u, h1, h2⟩ := h
  exact ⟨u, upd_new np h1, h2⟩
theorem Br.same {a : Addr} {n : Nat} {H H' : Hp} (h : Br a n H) (s : Same H H') : Br a n H' := by
  obtain ⟨o, h1, h2⟩ := h
  exact ⟨o, s _ _ h1, h2⟩
theorem Br.apart {a p : Addr} {n : Nat} {H : Hp} (h : Br a n H) (np : H p = none) : p ≠ a := fun e => by
  obtain ⟨o, h, _⟩ := h
  rw [← e, np] at h
  cases h
theorem none_of {H : Hp} {p q : Addr} {o : HO} (h : upd H p o q = none) : H q = none := by
  rw [← h, upd_ne]
  intro z
  rw [z, upd_same] at h
  cases h
theorem lt1000 {m : Int} {k : Nat} (h : m < 2 ^ k) (hk : k ≤ 1000) : m < 2 ^ (1000 : Nat) := lt_pow h hk
theorem small1000' {m : Int} (h : m < 1000000000000000000000000000000) : m < 2 ^ (1000 : Nat) := lt1000 (k := 100) (Int.lt_trans h (by decide +kernel)) (by decide)

abbrev Item : Type := Nat × Nat × List Nat
def fx (its : List Item) : List Nat := its.flatMap fun it => it.1 :: it.2.2
def lx (its : List Item) : List Nat := its.flatMap fun it => List.replicate it.2.1 it.1
structure DsOk (t : Nat) (ds : List Nat) : Prop where
  dig : ∀ d ∈ ds, IsDig d
  one : ds = [] → t = 1
  len : ds.length ≤ 3
  num : ds ≠ [] → PySem.intText? (sg ds) = some (t : Int) ∧ 2 ≤ t ∧ t ≤ 240 ∧ ds[0]? ≠ some 48
theorem DsOk.most {t : Nat} {ds : List Nat} (h : DsOk t ds) : 1 ≤ t ∧ t ≤ 240 := by
  by_cases e : ds = []
  · rw [h.one e]
    exact ⟨by decide, by decide⟩
  · obtain ⟨_, a, b, _⟩ := h.num e
    exact ⟨by omega, b⟩
def ItOk (it : Item) : Prop := 97 ≤ it.1 ∧ it.1 ≤ 100 ∧ DsOk it.2.1 it.2.2
theorem fx_cons (it : Item) (its : List Item) : fx (it :: its) = it.1 :: (it.2.2 ++ fx its) := rfl
def PartsAt (H : Hp) (xs : List V) (its : List Item) : Prop := xs.length = its.length ∧ ∀ (j : Nat) (x : V) (it : Item), xs[j]? = some x → its[j]? = some it → ∃ a, x = .ref a ∧ H a = some (.tup [.str (sg [it.1]), .int (it.2.1 : Int)])
theorem PartsAt.same {H H' : Hp} {xs : List V} {its : List Item} (h : PartsAt H xs its) (s : Same H H') : PartsAt H' xs its := by
  refine ⟨h.1, fun j x it hx hi => ?_⟩
  obtain ⟨a, e, ha⟩ := h.2 j x it hx hi
  exact ⟨a, e, s _ _ ha⟩
theorem PartsAt.put {H : Hp} {xs : List V} {its : List Item} {D : Addr} {zs : List V} {o : HO} (h : PartsAt H xs its) (hD : H D = some (.lst zs)) : PartsAt (upd H D o) xs its := by
  refine ⟨h.1, fun j x it hx hi => ?_⟩
  obtain ⟨a, e, ha⟩ := h.2 j x it hx hi
  refine ⟨a, e, upd_at (fun z => ?_) ha⟩
  rw [z, hD] at ha
  cases ha
theorem PartsAt.snoc {H : Hp} {xs : List V} {its : List Item} {a : Addr} {it : Item} (h : PartsAt H xs its) (ha : H a = some (.tup [.str (sg [it.1]), .int (it.2.1 : Int)])) : PartsAt H (xs ++ [.ref a]) (its ++ [it]) := by
  refine ⟨by rw [List.length_append, List.length_append, h.1]; rfl, fun j x i2 hx hi => ?_⟩
  by_cases hj : j < xs.length
  · rw [List.getElem?_append_left hj] at hx
    rw [List.getElem?_append_left (by rw [← h.1]; exact hj)] at hi
    exact h.2 j x i2 hx hi
  · rw [List.getElem?_append_right (by omega)] at hx
    rw [List.getElem?_append_right (by rw [← h.1]; omega), ← h.1] at hi
    have hj0 : j - xs.length = 0 := by
      have := (List.getElem?_eq_some_iff.mp hx).1
      simp only [List.length_singleton] at this
      omega
    rw [hj0] at hx hi
    cases hx
    cases hi
    exact ⟨a, rfl, ha⟩
theorem fx_take (its : List Item) (i : Nat) (h : i < its.length) : fx its = fx (its.take i) ++ (its[i].1 :: (its[i].2.2 ++ fx (its.drop (i + 1)))) := by
  have e : its = its.take i ++ (its[i] :: its.drop (i + 1)) := by
    rw [← List.drop_eq_getElem_cons h, List.take_append_drop]
  conv => lhs; rw [e]
  unfold fx
  rw [List.flatMap_append, List.flatMap_cons]
  rfl
theorem fx_step (its : List Item) (i : Nat) (h : i < its.length) : (fx (its.take (i + 1))).length = (fx (its.take i)).length + 1 + its[i].2.2.length := by
  rw [List.take_succ_eq_append_getElem h]
  unfold fx
  rw [List.flatMap_append, List.length_append]
  simp
  omega
theorem fx_head (its : List Item) (hi : ∀ it ∈ its, ItOk it) (d : Nat) (h : (fx its)[0]? = some d) : ¬ IsDig d := by
  cases its with
  | nil => cases h
  | cons it its =>
    have e : it.1 = d := Option.some.inj h
    have := hi it List.mem_cons_self
    unfold ItOk at this
    unfold IsDig
    omega
theorem fx_ge : ∀ its : List Item, its.length ≤ (fx its).length
  | [] => Nat.zero_le _
  | it :: its => by
    have := fx_ge its
    rw [fx_cons, List.length_cons, List.length_cons, List.length_append]
    omega
theorem lx_take (its : List Item) (i : Nat) (h : i < its.length) : lx (its.take (i + 1)) = lx (its.take i) ++ List.replicate its[i].2.1 its[i].1 := by
  rw [List.take_succ_eq_append_getElem h]
  unfold lx
  rw [List.flatMap_append]
  simp
theorem lx_ge : ∀ its : List Item, (∀ it ∈ its, ItOk it) → its.length ≤ (lx its).length
  | [], _ => Nat.zero_le _
  | it :: its, h => by
    have := lx_ge its fun x hx => h x (List.mem_cons_of_mem _ hx)
    have h1 := (h it List.mem_cons_self).2.2.most
    show _ ≤ (List.replicate it.2.1 it.1 ++ lx its).length
    rw [List.length_cons, List.length_append, List.length_replicate]
    omega
theorem shaped_all : ∀ ns : List Int, PyData.canLayAll0 (ns.map .int) = true ∧ PyData.depthAll (ns.map .int) = 0
  | [] => ⟨rfl, rfl⟩
  | n :: ns => by
    obtain ⟨a, b⟩ := shaped_all ns
    exact ⟨by simp only [List.map_cons, PyData.canLayAll0, PyData.canLay0, a, Bool.and_self], by simp only [List.map_cons, PyData.depthAll, PyData.depth, b, Nat.max_self]⟩
theorem shaped_ints (ns : List Int) : SeqAt.shaped (.list (ns.map .int)) = true := by
  obtain ⟨a, b⟩ := shaped_all ns
  simp only [SeqAt.shaped, PyData.canLay0, PyData.depth, a, b]
  decide
theorem flat_ints (ns : List Int) : (ns.map V.int).all flatV = true := by
  rw [List.all_eq_true]
  intro x hx
  obtain ⟨i, _, rfl⟩ := List.mem_map.mp hx
  rfl
theorem at_last {ns : List Int} {v : Int} (h : 0 < ns.length) (e : ns[ns.length - 1]? = some v) : atI (ns.map V.int) (-1) = some (V.int v) := by
  unfold atI ixN
  rw [List.length_map, if_neg (by decide), if_pos (by omega)]
  show (ns.map V.int)[(-1 + (ns.length : Int)).toNat]? = _
  rw [show (-1 + (ns.length : Int)).toNat = ns.length - 1 by omega, List.getElem?_map, e]
  rfl
/-- the numbers of the signs of each axis -/
def cnts (l : List Nat) (n : Nat) : List Int := (List.range n).map fun k => (l.count (97 + k) : Int)
theorem cnts_at {l : List Nat} {n k : Nat} (h : k < n) : (cnts l n)[k]? = some (l.count (97 + k) : Int) := by
  unfold cnts
  rw [List.getElem?_map, List.getElem?_range h]
  rfl
theorem cnts_cut {l : List Nat} {m : Nat} (h : 1 ≤ m) : HO.lst (cutV ((cnts l m).map V.int) none (some (-1))) = HO.lst ((cnts l (m - 1)).map V.int) := by
  have hl : ((cnts l m).map V.int).length = m := by
    unfold cnts
    rw [List.length_map, List.length_map, List.length_range]
  unfold cutV
  rw [hl, HT.sIx_none]
  have e : HT.sIx m m (some (-1)) = m - 1 := by
    show (if (-1 : Int) < 0 then ((-1 : Int) + (m : Int)).toNat else min (-1 : Int).toNat m) = m - 1
    rw [if_pos (by decide)]
    omega
  rw [e, List.drop_zero, Nat.sub_zero]
  congr 1
  unfold cnts
  rw [← List.map_take, ← List.map_take, List.take_range, Nat.min_eq_left (by omega)]
theorem cnt_step (n : Nat) : ∀ l : List Nat, (l.filter fun c => decide (97 ≤ c ∧ c < 97 + (n + 1))).length = (l.filter fun c => decide (97 ≤ c ∧ c < 97 + n)).length + l.count (97 + n)
  | [] => rfl
  | c :: l => by
    have ih := cnt_step n l
    rw [List.filter_cons, List.filter_cons, List.count_cons]
    by_cases h : c = 97 + n
    · rw [if_pos (decide_eq_true (by omega)), if_neg (by rw [decide_eq_true_eq]; omega), if_pos (by rw [h]; exact beq_self_eq_true _), List.length_cons, ih]
      omega
    · rw [if_neg (show ¬ (c == 97 + n) = true by rw [beq_iff_eq]; exact h)]
      by_cases g : 97 ≤ c ∧ c < 97 + n
      · rw [if_pos (decide_eq_true (by omega)), if_pos (decide_eq_true g), List.length_cons, List.length_cons, ih]
        omega
      · rw [if_neg (by rw [decide_eq_true_eq]; omega), if_neg (by rw [decide_eq_true_eq]; exact g), ih]
        rfl
theorem cnts_succ (l : List Nat) (n : Nat) : cnts l (n + 1) = cnts l n ++ [(l.count (97 + n) : Int)] := by
  unfold cnts
  rw [List.range_succ, List.map_append]
  rfl
theorem cnts_sum (l : List Nat) : ∀ n : Nat, (cnts l n).sum = ((l.filter fun c => decide (97 ≤ c ∧ c < 97 + n)).length : Int)
  | 0 => by
    have : (l.filter fun c => decide (97 ≤ c ∧ c < 97 + 0)) = [] := by
      rw [List.filter_eq_nil_iff]
      intro c _
      rw [decide_eq_true_eq]
      omega
    rw [this]
    rfl
  | n + 1 => by
    rw [cnts_succ, List.sum_append, cnts_sum l n, cnt_step n l]
    simp
theorem cnts_mem {l : List Nat} {n : Nat} {i : Int} (h : i ∈ cnts l n) : ∃ k, k < n ∧ i = (l.count (97 + k) : Int) := by
  obtain ⟨k, hk, rfl⟩ := List.mem_map.mp h
  exact ⟨k, List.mem_range.mp hk, rfl⟩
structure WOk (l : List Nat) (n : Nat) : Prop where
  n1 : 1 ≤ n
  n4 : n ≤ 4
  lo : ∀ k, k < n → 1 ≤ l.count (97 + k)
  hi : ∀ k, k < n → l.count (97 + k) ≤ 120
  no : ∀ k, n ≤ k → k < 4 → l.count (97 + k) = 0
  al : ∀ c ∈ l, 97 ≤ c ∧ c ≤ 100
  le : l.length ≤ 240
theorem abcd_at {c i : Nat} (h : (Str.ofString "abcd").cps[i]? = some c) : c = 97 + i := by
  have e : (Str.ofString "abcd").cps = #[97, 98, 99, 100] := by decide +kernel
  rw [e] at h
  match i, h with
  | 0, h => exact (Option.some.inj h).symm
  | 1, h => exact (Option.some.inj h).symm
  | 2, h => exact (Option.some.inj h).symm
  | 3, h => exact (Option.some.inj h).symm
  | (k + 4), h => simp at h
theorem neE_do {H : Hp} {a b : Addr} {ns : List Int} {Q : VK} (h1 : SqL K H a (ns.map V.int)) (h2 : H b = some (.lst [])) (hn : 0 < ns.length) (q : Q (.bl true) H) : rNeD K (.ref a) (.ref b) H Q := by
  cases ns with
  | nil => cases hn
  | cons x xs =>
    refine ⟨_, _, .lst h1 (dp_ints _), .lst (sqL_of h2) .nil, shaped_ints _, rfl, ?_⟩
    exact q
theorem eqE_do {H : Hp} {a b : Addr} {ns : List Int} {Q : VK} (h1 : SqL K H a (ns.map V.int)) (h2 : H b = some (.lst [])) (hn : 0 < ns.length) (q : Q (.bl false) H) : rEqD K (.ref a) (.ref b) H Q := by
  cases ns with
  | nil => cases hn
  | cons x xs =>
    refine ⟨_, _, .lst h1 (dp_ints _), .lst (sqL_of h2) .nil, shaped_ints _, rfl, ?_⟩
    exact q
def shp (K : PySem.W.Frag) (H : Hp) (a : Addr) (l : List Nat) (n : Nat) : Prop := ∃ dx sh, H a = some (.ins (He.ga K "Weave") dx [("own_letters", .str (sg l)), ("own_shape", .ref sh)]) ∧ H sh = some (.tup ((cnts l n).map V.int))
theorem abcd_index {c : Nat} (h1 : 97 ≤ c) (h2 : c ≤ 100) : Builtin.Str.occurrences (Str.ofString "abcd") ⟨#[c]⟩ 0 (Str.ofString "abcd").length 1 = [c - 97] := by
  rcases (show c = 97 ∨ c = 98 ∨ c = 99 ∨ c = 100 by omega) with e | e | e | e <;> subst e <;> decide +kernel
def PathAt (H : Hp) (xs : List V) (l : List Nat) (n : Nat) : Prop := ∀ (j : Nat) (x : V) (c : Nat), xs[j]? = some x → l[j]? = some c → ∃ a t, x = .ref a ∧ H a = some (.tup [.int ((c - 97 : Nat) : Int), .ref t]) ∧ H t = some (.tup ((cnts (l.take j) n).map V.int))
theorem PathAt.same {H H' : Hp} {xs : List V} {l : List Nat} {n : Nat} (h : PathAt H xs l n) (s : Same H H') : PathAt H' xs l n := fun j x c hx hc => by
  obtain ⟨a, t, e, ha, ht⟩ := h j x c hx hc
  exact ⟨a, t, e, s _ _ ha, s _ _ ht⟩
theorem PathAt.put {H : Hp} {xs zs : List V} {l : List Nat} {n : Nat} {D : Addr} {o : HO} (h : PathAt H xs l n) (hD : H D = some (.lst zs)) : PathAt (upd H D o) xs l n := fun j x c hx hc => by
  obtain ⟨a, t, e, ha, ht⟩ := h j x c hx hc
  have na : a ≠ D := fun z => by
    rw [z, hD] at ha
    cases ha
  have nt : t ≠ D := fun z => by
    rw [z, hD] at ht
    cases ht
  exact ⟨a, t, e, upd_at na ha, upd_at nt ht⟩
theorem PathAt.snoc {H : Hp} {xs : List V} {l : List Nat} {n : Nat} {a t : Addr} {c : Nat} (h : PathAt H xs l n) (hc : l[xs.length]? = some c) (ha : H a = some (.tup [.int ((c - 97 : Nat) : Int), .ref t])) (ht : H t = some (.tup ((cnts (l.take xs.length) n).map V.int))) : PathAt H (xs ++ [.ref a]) l n := fun j x d hx hd => by
  by_cases hj : j < xs.length
  · rw [List.getElem?_append_left hj] at hx
    exact h j x d hx hd
  · rw [List.getElem?_append_right (by omega)] at hx
    have hj0 := (List.getElem?_eq_some_iff.mp hx).1
    simp only [List.length_singleton] at hj0
    have e : j = xs.length := by omega
    subst e
    rw [Nat.sub_self] at hx
    cases hx
    rw [hc] at hd
    cases hd
    exact ⟨a, t, rfl, ha, ht⟩
theorem rep_one (v : V) : ∀ n : Nat, (List.replicate n [v]).flatten = List.replicate n v
  | 0 => rfl
  | n + 1 => by
    rw [List.replicate_succ, List.flatten_cons, rep_one v n]
    rfl
theorem cnts_nil (n : Nat) : cnts [] n = List.replicate n 0 := by
  unfold cnts
  simp [List.map_const']
theorem cnts_len (l : List Nat) (n : Nat) : (cnts l n).length = n := by
  unfold cnts
  rw [List.length_map, List.length_range]
theorem cnts_snoc {l : List Nat} {n c : Nat} (h1 : 97 ≤ c) (h2 : c < 97 + n) : cnts (l ++ [c]) n = (cnts l n).set (c - 97) ((l.count c : Int) + 1) := by
  apply List.ext_getElem?
  intro k
  by_cases hk : k < n
  · rw [cnts_at hk]
    by_cases e : k = c - 97
    · rw [← e, List.getElem?_set_self (by rw [cnts_len]; exact hk), List.count_append]
      have : 97 + k = c := by omega
      rw [this]
      simp
    · rw [List.getElem?_set_ne (by omega), cnts_at hk, List.count_append]
      have : ¬ c = 97 + k := by omega
      simp [this]
  · rw [List.getElem?_eq_none (by rw [cnts_len]; omega), List.getElem?_eq_none (by rw [List.length_set, cnts_len]; omega)]
theorem WOk.rng {l : List Nat} {n : Nat} (h : WOk l n) : ∀ c ∈ l, 97 ≤ c ∧ c < 97 + n := fun c hc => by
  obtain ⟨a, b⟩ := h.al c hc
  refine ⟨a, ?_⟩
  rcases Nat.lt_or_ge c (97 + n) with g | g
  · exact g
  · have e := h.no (c - 97) (by omega) (by omega)
    have := List.count_pos_iff.mpr hc
    rw [show 97 + (c - 97) = c by omega] at e
    omega
theorem cnt_lt {l : List Nat} {i : Nat} (h : i < l.length) : (l.take i).count l[i] < l.count l[i] := by
  have e : l = l.take i ++ (l[i] :: l.drop (i + 1)) := by
    rw [← List.drop_eq_getElem_cons h, List.take_append_drop]
  have e2 : l.count l[i] = (l.take i ++ (l[i] :: l.drop (i + 1))).count l[i] := by rw [← e]
  rw [e2, List.count_append, List.count_cons_self]
  omega
/-- the key's first j bits -/
def keyN (l : List Nat) (cs : List Int) : Nat → Int
  | 0 => 0
  | j + 1 => keyN l cs j * 2 + cs.getD (l.getD j 0 - 97) 0 / 2 ^ (l.count (l.getD j 0) - (l.take j).count (l.getD j 0) - 1) % 2
theorem keyN_bound (l : List Nat) (cs : List Int) : ∀ j, 0 ≤ keyN l cs j ∧ keyN l cs j < 2 ^ j
  | 0 => ⟨Int.le_refl _, by show (0 : Int) < 2 ^ 0; decide⟩
  | j + 1 => by
    obtain ⟨a, b⟩ := keyN_bound l cs j
    have r0 := Int.emod_nonneg (cs.getD (l.getD j 0 - 97) 0 / 2 ^ (l.count (l.getD j 0) - (l.take j).count (l.getD j 0) - 1)) (show (2 : Int) ≠ 0 by decide)
    have r1 := Int.emod_lt_of_pos (cs.getD (l.getD j 0 - 97) 0 / 2 ^ (l.count (l.getD j 0) - (l.take j).count (l.getD j 0) - 1)) (show (0 : Int) < 2 by decide)
    rw [keyN, Int.pow_succ]
    omega
structure CellOk (l : List Nat) (n : Nat) (cs : List Int) : Prop where
  len : cs.length = n
  lo : ∀ k, k < n → 0 ≤ cs.getD k 0
  hi : ∀ k, k < n → cs.getD k 0 < 2 ^ l.count (97 + k)
/-- a number of a key's cell, after j letters -/
def cellN (l : List Nat) (key : Int) (k : Nat) : Nat → Int
  | 0 => 0
  | j + 1 => if l.getD j 0 = 97 + k then cellN l key k j * 2 + key / 2 ^ (l.length - (j + 1)) % 2 else cellN l key k j
def nums (l : List Nat) (key : Int) (n j : Nat) : List Int := (List.range n).map fun k => cellN l key k j
theorem nums_len (l : List Nat) (key : Int) (n j : Nat) : (nums l key n j).length = n := by
  unfold nums
  rw [List.length_map, List.length_range]
theorem nums_at {l : List Nat} {key : Int} {n j k : Nat} (h : k < n) : (nums l key n j)[k]? = some (cellN l key k j) := by
  unfold nums
  rw [List.getElem?_map, List.getElem?_range h]
  rfl
theorem nums_step {l : List Nat} {key : Int} {n j : Nat} (h1 : 97 ≤ l.getD j 0) : nums l key n (j + 1) = (nums l key n j).set (l.getD j 0 - 97) (cellN l key (l.getD j 0 - 97) j * 2 + key / 2 ^ (l.length - (j + 1)) % 2) := by
  apply List.ext_getElem?
  intro k
  by_cases hk : k < n
  · rw [nums_at hk, cellN]
    by_cases e : l.getD j 0 = 97 + k
    · rw [if_pos e, show l.getD j 0 - 97 = k by omega, List.getElem?_set_self (by rw [nums_len]; exact hk)]
    · rw [if_neg e, List.getElem?_set_ne (by omega), nums_at hk]
  · rw [List.getElem?_eq_none (by rw [nums_len]; omega), List.getElem?_eq_none (by rw [List.length_set, nums_len]; omega)]
theorem cellN_bound (l : List Nat) (key : Int) (k : Nat) : ∀ j, 0 ≤ cellN l key k j ∧ cellN l key k j < 2 ^ j
  | 0 => ⟨Int.le_refl _, by show (0 : Int) < 2 ^ 0; decide⟩
  | j + 1 => by
    obtain ⟨a, b⟩ := cellN_bound l key k j
    have r0 := Int.emod_nonneg (key / 2 ^ (l.length - (j + 1))) (show (2 : Int) ≠ 0 by decide)
    have r1 := Int.emod_lt_of_pos (key / 2 ^ (l.length - (j + 1))) (show (0 : Int) < 2 by decide)
    rw [cellN, Int.pow_succ]
    split <;> omega
theorem ediv_pow_succ (x : Int) (m : Nat) : x / 2 ^ (m + 1) = x / 2 / 2 ^ m := by
  rw [Int.ediv_ediv_of_nonneg (by decide), Int.pow_succ, Int.mul_comm]
theorem ediv_pow_succ' (x : Int) (m : Nat) : x / 2 ^ (m + 1) = x / 2 ^ m / 2 := by
  rw [Int.ediv_ediv_of_nonneg (Int.le_of_lt (Int.pow_pos (by decide))), Int.pow_succ]
theorem keyN_half (l : List Nat) (cs : List Int) (j : Nat) : keyN l cs (j + 1) / 2 = keyN l cs j := by
  rw [keyN]
  generalize cs.getD (l.getD j 0 - 97) 0 / 2 ^ (l.count (l.getD j 0) - (l.take j).count (l.getD j 0) - 1) = X
  omega
theorem keyN_div (l : List Nat) (cs : List Int) (j : Nat) : ∀ m : Nat, keyN l cs (j + m) / 2 ^ m = keyN l cs j
  | 0 => by rw [Int.pow_zero, Int.ediv_one]; rfl
  | m + 1 => by
    rw [ediv_pow_succ, ← Nat.add_assoc, keyN_half, keyN_div l cs j m]
theorem keyN_bit {l : List Nat} {cs : List Int} {j : Nat} (h : j < l.length) : keyN l cs l.length / 2 ^ (l.length - (j + 1)) % 2 = cs.getD (l.getD j 0 - 97) 0 / 2 ^ (l.count (l.getD j 0) - (l.take j).count (l.getD j 0) - 1) % 2 := by
  have e := keyN_div l cs (j + 1) (l.length - (j + 1))
  rw [show j + 1 + (l.length - (j + 1)) = l.length by omega] at e
  rw [e, keyN]
  generalize cs.getD (l.getD j 0 - 97) 0 / 2 ^ (l.count (l.getD j 0) - (l.take j).count (l.getD j 0) - 1) = X
  omega
theorem count_step {l : List Nat} {j c : Nat} (h : j < l.length) : (l.take (j + 1)).count c = (l.take j).count c + if l.getD j 0 = c then 1 else 0 := by
  have hg : l.getD j 0 = l[j] := by rw [List.getD_eq_getElem?_getD, List.getElem?_eq_getElem h]; rfl
  rw [List.take_succ_eq_append_getElem h, List.count_append, hg, List.count_singleton]
  simp
theorem count_take_le (l : List Nat) (j c : Nat) : (l.take j).count c ≤ l.count c := List.Sublist.count_le _ (List.take_sublist j l)
theorem cellN_key {l : List Nat} {cs : List Int} {k : Nat} (h0 : 0 ≤ cs.getD k 0) (h1 : cs.getD k 0 < 2 ^ l.count (97 + k)) : ∀ j, j ≤ l.length → cellN l (keyN l cs l.length) k j = cs.getD k 0 / 2 ^ (l.count (97 + k) - (l.take j).count (97 + k))
  | 0, _ => by
    rw [cellN, List.take_zero, List.count_nil, Nat.sub_zero, Int.ediv_eq_zero_of_lt h0 h1]
  | j + 1, h => by
    have hj : j < l.length := h
    have ih := cellN_key h0 h1 j (by omega)
    rw [cellN, ih, count_step hj]
    by_cases e : l.getD j 0 = 97 + k
    · have hlt := cnt_lt hj
      have hg : l.getD j 0 = l[j] := by rw [List.getD_eq_getElem?_getD, List.getElem?_eq_getElem hj]; rfl
      rw [← hg, e] at hlt
      rw [if_pos e, if_pos e, keyN_bit hj, e, show 97 + k - 97 = k by omega]
      obtain ⟨m, hm⟩ : ∃ m, l.count (97 + k) = (l.take j).count (97 + k) + 1 + m := ⟨l.count (97 + k) - ((l.take j).count (97 + k) + 1), by omega⟩
      rw [hm, show (l.take j).count (97 + k) + 1 + m - (l.take j).count (97 + k) = m + 1 by omega, show (l.take j).count (97 + k) + 1 + m - ((l.take j).count (97 + k) + 1) = m by omega, show m + 1 - 1 = m by omega, ediv_pow_succ']
      generalize cs.getD k 0 / 2 ^ m = X
      omega
    · rw [if_neg e, if_neg e, Nat.add_zero]
theorem nums_key {l : List Nat} {n : Nat} {cs : List Int} (hc : CellOk l n cs) : nums l (keyN l cs l.length) n l.length = cs := by
  apply List.ext_getElem?
  intro k
  by_cases hk : k < n
  · rw [nums_at hk, cellN_key (hc.lo k hk) (hc.hi k hk) _ (Nat.le_refl _), List.take_length, Nat.sub_self, Int.pow_zero, Int.ediv_one, List.getD_eq_getElem?_getD, List.getElem?_eq_getElem (by rw [hc.len]; exact hk)]
    rfl
  · rw [List.getElem?_eq_none (by unfold nums; rw [List.length_map, List.length_range]; omega), List.getElem?_eq_none (by rw [hc.len]; omega)]
theorem cellN_div {l : List Nat} {key : Int} {k j : Nat} : ∀ m : Nat, j + m ≤ l.length → cellN l key k (j + m) / 2 ^ ((l.take (j + m)).count (97 + k) - (l.take j).count (97 + k)) = cellN l key k j
  | 0, _ => by rw [Nat.add_zero, Nat.sub_self, Int.pow_zero, Int.ediv_one]
  | m + 1, h => by
    have hj : j + m < l.length := by omega
    have ih := cellN_div (l := l) (key := key) (k := k) (j := j) m (by omega)
    have mono : (l.take j).count (97 + k) ≤ (l.take (j + m)).count (97 + k) := List.Sublist.count_le _ (by
      rw [show l.take j = (l.take (j + m)).take j by rw [List.take_take, Nat.min_eq_left (by omega)]]
      exact List.take_sublist _ _)
    rw [← Nat.add_assoc, cellN, count_step hj]
    by_cases e : l.getD (j + m) 0 = 97 + k
    · rw [if_pos e, if_pos e, show (l.take (j + m)).count (97 + k) + 1 - (l.take j).count (97 + k) = ((l.take (j + m)).count (97 + k) - (l.take j).count (97 + k)) + 1 by omega, ediv_pow_succ]
      generalize key / 2 ^ (l.length - (j + m + 1)) = X
      rw [show (cellN l key k (j + m) * 2 + X % 2) / 2 = cellN l key k (j + m) by omega]
      exact ih
    · rw [if_neg e, if_neg e, Nat.add_zero]
      exact ih
theorem cellN_hi {l : List Nat} {key : Int} {k : Nat} : ∀ j, j ≤ l.length → 0 ≤ cellN l key k j ∧ cellN l key k j < 2 ^ (l.take j).count (97 + k)
  | 0, _ => ⟨Int.le_refl _, by rw [List.take_zero, List.count_nil]; show (0 : Int) < 2 ^ 0; decide⟩
  | j + 1, h => by
    obtain ⟨a, b⟩ := cellN_hi (l := l) (key := key) (k := k) j (by omega)
    rw [cellN, count_step h]
    by_cases e : l.getD j 0 = 97 + k
    · rw [if_pos e, if_pos e, Int.pow_succ]
      generalize key / 2 ^ (l.length - (j + 1)) = X
      omega
    · rw [if_neg e, if_neg e, Nat.add_zero]
      exact ⟨a, b⟩
theorem nums_ok (l : List Nat) (key : Int) (n : Nat) : CellOk l n (nums l key n l.length) := by
  have g : ∀ k, k < n → (nums l key n l.length).getD k 0 = cellN l key k l.length := fun k hk => by
    rw [List.getD_eq_getElem?_getD, nums_at hk]
    rfl
  refine ⟨by unfold nums; rw [List.length_map, List.length_range], fun k hk => ?_, fun k hk => ?_⟩
  · rw [g k hk]
    exact (cellN_hi _ (Nat.le_refl _)).1
  · rw [g k hk]
    have := (cellN_hi (l := l) (key := key) (k := k) _ (Nat.le_refl _)).2
    rw [List.take_length] at this
    exact this
theorem key_nums {l : List Nat} {key : Int} {n : Nat} (hl : ∀ c ∈ l, 97 ≤ c ∧ c < 97 + n) (k0 : 0 ≤ key) (k1 : key < 2 ^ l.length) : ∀ j, j ≤ l.length → keyN l (nums l key n l.length) j = key / 2 ^ (l.length - j)
  | 0, _ => by rw [keyN, Nat.sub_zero, Int.ediv_eq_zero_of_lt k0 k1]
  | j + 1, h => by
    have hj : j < l.length := h
    have ih := key_nums hl k0 k1 j (by omega)
    have hg : l.getD j 0 = l[j] := by rw [List.getD_eq_getElem?_getD, List.getElem?_eq_getElem hj]; rfl
    obtain ⟨c1, c2⟩ := hl _ (List.getElem_mem hj)
    rw [← hg] at c1 c2
    rw [keyN, ih, show (nums l key n l.length).getD (l.getD j 0 - 97) 0 = cellN l key (l.getD j 0 - 97) l.length by rw [List.getD_eq_getElem?_getD, nums_at (by omega)]; rfl]
    have d := cellN_div (l := l) (key := key) (k := l.getD j 0 - 97) (j := j + 1) (l.length - (j + 1)) (by omega)
    rw [show j + 1 + (l.length - (j + 1)) = l.length by omega, List.take_length, count_step hj, show 97 + (l.getD j 0 - 97) = l.getD j 0 by omega, if_pos rfl, ← Nat.sub_sub] at d
    rw [d, cellN, if_pos (by omega)]
    rw [show l.length - j = (l.length - (j + 1)) + 1 by omega, ediv_pow_succ']
    generalize key / 2 ^ (l.length - (j + 1)) = X
    omega
theorem key_back {l : List Nat} {key : Int} {n : Nat} (hl : ∀ c ∈ l, 97 ≤ c ∧ c < 97 + n) (k0 : 0 ≤ key) (k1 : key < 2 ^ l.length) : keyN l (nums l key n l.length) l.length = key := by
  rw [key_nums hl k0 k1 _ (Nat.le_refl _), Nat.sub_self, Int.pow_zero, Int.ediv_one]
theorem keyN_inj {l : List Nat} {n : Nat} {cs ds : List Int} (hc : CellOk l n cs) (hd : CellOk l n ds) (e : keyN l cs l.length = keyN l ds l.length) : cs = ds := by
  rw [← nums_key hc, ← nums_key hd, e]
theorem asc_range : ∀ (ns : List Int) (lo : Int), ns.Pairwise (· < ·) → (∀ x ∈ ns, lo ≤ x ∧ x < lo + ns.length) → ns = (List.range ns.length).map fun i => lo + (i : Nat)
  | [], _, _, _ => rfl
  | x :: xs, lo, hp, hb => by
    obtain ⟨h1, h2⟩ := List.pairwise_cons.mp hp
    have hx := hb x List.mem_cons_self
    have ih := asc_range xs (lo + 1) h2 fun y hy => by
      have a := h1 y hy
      have b := hb y (List.mem_cons_of_mem _ hy)
      rw [List.length_cons] at b
      omega
    have ex : x = lo := by
      cases xs with
      | nil =>
        simp only [List.length_cons, List.length_nil] at hx
        omega
      | cons y ys =>
        have a := h1 y List.mem_cons_self
        have : y = lo + 1 + ((0 : Nat) : Int) := by
          have := congrArg (fun l => l[0]?) ih
          simp only [List.length_cons, List.getElem?_cons_zero, List.getElem?_map, List.getElem?_range (show 0 < ys.length + 1 by omega), Option.map_some, Option.some.injEq] at this
          exact this
        omega
    rw [List.length_cons, List.range_succ_eq_map, List.map_cons, List.map_map]
    rw [ex]
    congr 1
    · simp
    · conv => lhs; rw [ih]
      apply List.map_congr_left
      intro i _
      simp only [Function.comp]
      omega
theorem sorted_range {ns ks : List Int} {N : Nat} (hp : ns.Perm ks) (hs : ns.Pairwise (· ≤ ·)) (hn : ks.Nodup) (hb : ∀ x ∈ ks, 0 ≤ x ∧ x < (N : Int)) (hl : ks.length = N) : ns = (List.range N).map fun i => ((i : Nat) : Int) := by
  have hnd : ns.Nodup := hp.nodup_iff.mpr hn
  have hlt : ns.Pairwise (· < ·) := (hs.and hnd).imp fun {a b} h => by
    have := h.1
    have := h.2
    omega
  have e := asc_range ns 0 hlt fun x hx => by
    have := hb x (hp.mem_iff.mp hx)
    rw [hp.length_eq, hl]
    omega
  rw [hp.length_eq, hl] at e
  conv => lhs; rw [e]
  apply List.map_congr_left
  intro i _
  omega

theorem WOk.sum {l : List Nat} {n : Nat} (h : WOk l n) : (cnts l n).sum = (l.length : Int) := by
  rw [cnts_sum, List.filter_eq_self.mpr]
  intro c hc
  exact decide_eq_true (h.rng c hc)
theorem shp_same {H H' : Hp} {x : Addr} {l : List Nat} {n : Nat} (h : shp K H x l n) (s : Same H H') : shp K H' x l n := by
  obtain ⟨dx, sh, h1, h2⟩ := h
  exact ⟨dx, sh, s _ _ h1, s _ _ h2⟩
theorem shp_but {H H' : Hp} {x D : Addr} {l : List Nat} {n : Nat} {zs : List V} (h : shp K H x l n) (b : But D H H') (hD : H D = some (.lst zs)) : shp K H' x l n := by
  obtain ⟨dx, sh, h1, h2⟩ := h
  exact ⟨dx, sh, b _ _ (fun z => by rw [z, hD] at h1; cases h1) h1, b _ _ (fun z => by rw [z, hD] at h2; cases h2) h2⟩
theorem shp_br {H H' : Hp} {x a : Addr} {l : List Nat} {n m : Nat} (h : shp K H x l n) (B : Br a m H) (b : But a H H') : shp K H' x l n := by
  obtain ⟨o, h1, _, _, _, e, _⟩ := B
  exact shp_but h b (by rw [h1, e])
theorem Br.at {a p : Addr} {n : Nat} {H : Hp} {o : HO} (h : Br a n H) (np : p ≠ a) : Br a n (upd H p o) := by
  obtain ⟨u, h1, h2⟩ := h
  exact ⟨u, upd_at np.symm h1, h2⟩
theorem Br.keepT {K : PySem.W.Frag} {a p : Addr} {n : Nat} {H H' : Hp} {xs : List V} (h : Br a n H) (b : But a H H') (t : SqT K H p xs) : SqT K H' p xs := by
  obtain ⟨o, h1, x, y, z, e, _⟩ := h
  exact b.sqT (by rw [h1, e]) t
theorem Br.tups {a : Addr} {n : Nat} {H H' : Hp} {xs : List V} {ts : List (List V)} (h : Br a n H) (b : But a H H') (t : TupsAt H xs ts) : TupsAt H' xs ts := by
  obtain ⟨o, h1, x, y, z, e, _⟩ := h
  exact t.but b (by rw [h1, e])
theorem Br.keep {a p : Addr} {n : Nat} {H H' : Hp} {xs : List V} (h : Br a n H) (b : But a H H') (t : H p = some (.tup xs)) : H' p = some (.tup xs) := by
  obtain ⟨o, h1, x, y, z, e, _⟩ := h
  exact b.keepT (by rw [h1, e]) t
theorem cells_bit {m : Nat} (h : m ≤ 120) : (2 : Int) ^ m < 2 ^ (1000 : Nat) := by
  have := pow_le (a := m) (b := 120) h
  have : (2 : Int) ^ 120 < 2 ^ (1000 : Nat) := by decide +kernel
  omega
structure ShOk (sh : List Int) : Prop where
  n1 : 1 ≤ sh.length
  n4 : sh.length ≤ 4
  bt : ∀ b ∈ sh, 1 ≤ b ∧ b ≤ 120
  sm : sh.sum ≤ 240
/-- what is left of each axis behind these letters -/
def lft (sh : List Int) (l : List Nat) : List Int := (List.range sh.length).map fun k => sh.getD k 0 - (l.count (97 + k) : Nat)
theorem lft_len (sh : List Int) (l : List Nat) : (lft sh l).length = sh.length := by
  unfold lft
  rw [List.length_map, List.length_range]
theorem lft_at {sh : List Int} {l : List Nat} {k : Nat} (h : k < sh.length) : (lft sh l)[k]? = some (sh.getD k 0 - (l.count (97 + k) : Nat)) := by
  unfold lft
  rw [List.getElem?_map, List.getElem?_range h]
  rfl
theorem lft_get {sh : List Int} {l : List Nat} {k : Nat} (h : k < sh.length) : (lft sh l).getD k 0 = sh.getD k 0 - (l.count (97 + k) : Nat) := by
  rw [List.getD_eq_getElem?_getD, lft_at h]
  rfl
theorem getD_self (sh : List Int) : ((List.range sh.length).map fun k => sh.getD k 0) = sh := by
  apply List.ext_getElem?
  intro k
  by_cases h : k < sh.length
  · rw [List.getElem?_map, List.getElem?_range h, List.getElem?_eq_getElem h, Option.map_some, List.getD_eq_getElem?_getD, List.getElem?_eq_getElem h]
    rfl
  · rw [List.getElem?_eq_none (by rw [List.length_map, List.length_range]; omega), List.getElem?_eq_none (by omega)]
theorem lft_nil (sh : List Int) : lft sh [] = sh := by
  have e := getD_self sh
  unfold lft
  simp only [List.count_nil]
  simpa using e
theorem lft_snoc {sh : List Int} {l : List Nat} {k : Nat} (h : k < sh.length) : lft sh (l ++ [97 + k]) = (lft sh l).set k ((lft sh l).getD k 0 - 1) := by
  apply List.ext_getElem?
  intro j
  by_cases hj : j < sh.length
  · rw [lft_at hj]
    by_cases e : j = k
    · subst e
      rw [List.getElem?_set_self (by rw [lft_len]; exact hj), lft_get hj, List.count_append, List.count_singleton_self]
      congr 1
      omega
    · rw [List.getElem?_set_ne (by omega), lft_at hj, List.count_append, List.count_singleton, if_neg (by rw [beq_iff_eq]; omega), Nat.add_zero]
  · rw [List.getElem?_eq_none (by rw [lft_len]; omega), List.getElem?_eq_none (by rw [List.length_set, lft_len]; omega)]
theorem sum_sub_range (f g : Nat → Int) : ∀ n : Nat, ((List.range n).map fun k => f k - g k).sum = ((List.range n).map f).sum - ((List.range n).map g).sum
  | 0 => rfl
  | n + 1 => by
    simp only [List.range_succ, List.map_append, List.sum_append, List.map_cons, List.map_nil, List.sum_singleton, sum_sub_range f g n]
    omega
theorem lft_sum {sh : List Int} {l : List Nat} (h : ∀ c ∈ l, 97 ≤ c ∧ c < 97 + sh.length) : (lft sh l).sum = sh.sum - (l.length : Int) := by
  unfold lft
  rw [sum_sub_range, getD_self]
  have e := cnts_sum l sh.length
  unfold cnts at e
  rw [e, List.filter_eq_self.mpr fun c hc => decide_eq_true (h c hc)]
theorem sumNN : ∀ xs : List Int, (∀ x ∈ xs, 0 ≤ x) → 0 ≤ xs.sum
  | [], _ => Int.le_refl _
  | x :: xs, h => by
    rw [List.sum_cons]
    have := sumNN xs fun y hy => h y (List.mem_cons_of_mem _ hy)
    have := h x List.mem_cons_self
    omega
theorem sum_pos_ex : ∀ xs : List Int, (∀ x ∈ xs, 0 ≤ x) → 0 < xs.sum → ∃ k, k < xs.length ∧ 0 < xs.getD k 0
  | [], _, h => absurd h (by decide)
  | x :: xs, h, hs => by
    rw [List.sum_cons] at hs
    by_cases e : 0 < x
    · exact ⟨0, by rw [List.length_cons]; omega, e⟩
    · obtain ⟨k, h1, h2⟩ := sum_pos_ex xs (fun y hy => h y (List.mem_cons_of_mem _ hy)) (by omega)
      exact ⟨k + 1, by rw [List.length_cons]; omega, h2⟩
theorem sum_zero_all : ∀ xs : List Int, (∀ x ∈ xs, 0 ≤ x) → xs.sum = 0 → ∀ x ∈ xs, x = 0
  | [], _, _, x, hx => by cases hx
  | y :: xs, h, hs, x, hx => by
    rw [List.sum_cons] at hs
    have h0 := sumNN xs fun y hy => h y (List.mem_cons_of_mem _ hy)
    have h1 := h y List.mem_cons_self
    rcases List.mem_cons.mp hx with e | e
    · omega
    · exact sum_zero_all xs (fun y hy => h y (List.mem_cons_of_mem _ hy)) (by omega) x e
theorem memG {xs : List Int} {x : Int} (h : x ∈ xs) : ∃ k, k < xs.length ∧ xs.getD k 0 = x := by
  obtain ⟨k, hk⟩ := List.mem_iff_getElem?.mp h
  obtain ⟨hl, _⟩ := List.getElem?_eq_some_iff.mp hk
  exact ⟨k, hl, by rw [List.getD_eq_getElem?_getD, hk]; rfl⟩
theorem gMem {xs : List Int} {k : Nat} (h : k < xs.length) : xs.getD k 0 ∈ xs := by
  rw [List.getD_eq_getElem?_getD, List.getElem?_eq_getElem h]
  exact List.getElem_mem h
theorem ShOk.at {sh : List Int} (h : ShOk sh) {k : Nat} (hk : k < sh.length) : 1 ≤ sh.getD k 0 ∧ sh.getD k 0 ≤ 120 := h.bt _ (gMem hk)
theorem lft_done {sh : List Int} {l : List Nat} (h : ShOk sh) (ha : ∀ c ∈ l, 97 ≤ c ∧ c < 97 + sh.length) (hl : (l.length : Int) = sh.sum) (h0 : ∀ k, k < sh.length → 0 ≤ (lft sh l).getD k 0) : WOk l sh.length ∧ cnts l sh.length = sh := by
  have z : ∀ k, k < sh.length → sh.getD k 0 = (l.count (97 + k) : Nat) := fun k hk => by
    have := sum_zero_all (lft sh l) (fun x hx => by
      obtain ⟨j, hj, rfl⟩ := memG hx
      exact h0 j (by rw [lft_len] at hj; exact hj)) (by rw [lft_sum ha]; omega) _ (gMem (k := k) (by rw [lft_len]; exact hk))
    rw [lft_get hk] at this
    omega
  refine ⟨⟨h.n1, h.n4, fun k hk => ?_, fun k hk => ?_, fun k hk _ => ?_, fun c hc => ?_, by have := h.sm; omega⟩, ?_⟩
  · have := z k hk
    have := (h.at hk).1
    omega
  · have := z k hk
    have := (h.at hk).2
    omega
  · apply List.count_eq_zero.mpr
    intro hm
    have := ha _ hm
    omega
  · have := ha c hc
    have := h.n4
    omega
  · apply List.ext_getElem?
    intro k
    by_cases hk : k < sh.length
    · rw [cnts_at hk, ← z k hk, List.getElem?_eq_getElem hk, List.getD_eq_getElem?_getD, List.getElem?_eq_getElem hk]
      rfl
    · rw [List.getElem?_eq_none (by rw [cnts_len]; omega), List.getElem?_eq_none (by omega)]
theorem abcd_get {x : Nat} (h : x < 4) : (Str.ofString "abcd").cps[x]? = some (97 + x) := by
  have e : (Str.ofString "abcd").cps = #[97, 98, 99, 100] := by decide +kernel
  rw [e]
  match x, h with
  | 0, _ => rfl
  | 1, _ => rfl
  | 2, _ => rfl
  | 3, _ => rfl
def grow (b : Nat) (acc : List (List Int)) : List (List Int) := acc.flatMap fun c => (List.range (2 ^ b)).map fun v => c ++ [((v : Nat) : Int)]
def cellsOf (sh : List Int) : List (List Int) := sh.foldl (fun acc b => grow b.toNat acc) [[]]
theorem cellsOf_snoc (sh : List Int) (b : Int) : cellsOf (sh ++ [b]) = grow b.toNat (cellsOf sh) := by
  unfold cellsOf
  rw [List.foldl_append]
  rfl
theorem grow_len (b : Nat) (acc : List (List Int)) : (grow b acc).length = acc.length * 2 ^ b := by
  unfold grow
  rw [List.length_flatMap]
  simp [List.map_const']
theorem grow_snoc (b : Nat) (acc : List (List Int)) (c : List Int) : grow b (acc ++ [c]) = grow b acc ++ (List.range (2 ^ b)).map fun v => c ++ [((v : Nat) : Int)] := by
  unfold grow
  rw [List.flatMap_append]
  simp
def BoundC (sh : List Int) (c : List Int) : Prop := c.length = sh.length ∧ ∀ k, k < sh.length → 0 ≤ c.getD k 0 ∧ c.getD k 0 < 2 ^ (sh.getD k 0).toNat
theorem mem_grow {b : Nat} {acc : List (List Int)} {c : List Int} (h : c ∈ grow b acc) : ∃ d v, d ∈ acc ∧ v < 2 ^ b ∧ c = d ++ [((v : Nat) : Int)] := by
  unfold grow at h
  rw [List.mem_flatMap] at h
  obtain ⟨d, hd, h⟩ := h
  obtain ⟨v, hv, rfl⟩ := List.mem_map.mp h
  exact ⟨d, v, hd, List.mem_range.mp hv, rfl⟩
theorem cellsOf_all : ∀ (m : Nat) (sh : List Int), m ≤ sh.length → ∀ c ∈ cellsOf (sh.take m), c.length = m ∧ ∀ k, k < m → 0 ≤ c.getD k 0 ∧ c.getD k 0 < 2 ^ (sh.getD k 0).toNat
  | 0, sh, _, c, hc => by
    have : c = [] := by
      rw [List.take_zero] at hc
      exact List.mem_singleton.mp hc
    rw [this]
    exact ⟨rfl, fun k hk => absurd hk (by omega)⟩
  | m + 1, sh, hm, c, hc => by
    rw [List.take_succ_eq_append_getElem hm, cellsOf_snoc] at hc
    obtain ⟨d, v, hd, hv, rfl⟩ := mem_grow hc
    obtain ⟨h1, h2⟩ := cellsOf_all m sh (by omega) d hd
    refine ⟨by rw [List.length_append, h1]; rfl, fun k hk => ?_⟩
    by_cases e : k < m
    · rw [getD_snoc_lt (by omega)]
      exact h2 k e
    · have : k = m := by omega
      subst this
      rw [getD_snoc_eq h1.symm, show sh.getD k 0 = sh[k] by rw [List.getD_eq_getElem?_getD, List.getElem?_eq_getElem hm]; rfl, pow_nat]
      omega
theorem cellsOf_bound {sh : List Int} {c : List Int} (h : c ∈ cellsOf sh) : BoundC sh c := by
  have := cellsOf_all sh.length sh (Nat.le_refl _) c (by rw [List.take_length]; exact h)
  exact this
theorem nodup_flatMap {α β : Type} (f : α → List β) : ∀ l : List α, l.Nodup → (∀ x ∈ l, (f x).Nodup) → (∀ x ∈ l, ∀ y ∈ l, ∀ z, z ∈ f x → z ∈ f y → x = y) → (l.flatMap f).Nodup
  | [], _, _, _ => List.nodup_nil
  | x :: l, h, h1, h2 => by
    obtain ⟨a, b⟩ := List.nodup_cons.mp h
    rw [List.flatMap_cons, List.nodup_append]
    refine ⟨h1 x List.mem_cons_self, nodup_flatMap f l b (fun y hy => h1 y (List.mem_cons_of_mem _ hy)) fun y hy z hz => h2 y (List.mem_cons_of_mem _ hy) z (List.mem_cons_of_mem _ hz), ?_⟩
    intro u hu v hv e
    subst e
    obtain ⟨y, hy, hz⟩ := List.mem_flatMap.mp hv
    have := h2 x List.mem_cons_self y (List.mem_cons_of_mem _ hy) u hu hz
    rw [this] at a
    exact a hy
theorem grow_nodup {b m : Nat} {acc : List (List Int)} (h : acc.Nodup) (hl : ∀ c ∈ acc, c.length = m) : (grow b acc).Nodup := by
  refine nodup_flatMap _ acc h (fun c hc => ?_) fun c hc d hd z h1 h2 => ?_
  · rw [List.nodup_iff_pairwise_ne, List.pairwise_map]
    refine List.Pairwise.imp ?_ (List.nodup_iff_pairwise_ne.mp List.nodup_range)
    intro x y hxy e
    have := List.append_cancel_left e
    simp only [List.cons.injEq, and_true] at this
    omega
  · obtain ⟨v, _, rfl⟩ := List.mem_map.mp h1
    obtain ⟨u, _, e⟩ := List.mem_map.mp h2
    exact (List.append_inj e (by rw [hl c hc, hl d hd])).1.symm
theorem cellsOf_nodup : ∀ (m : Nat) (sh : List Int), m ≤ sh.length → (cellsOf (sh.take m)).Nodup
  | 0, sh, _ => by
    rw [List.take_zero]
    exact List.nodup_cons.mpr ⟨by simp, List.nodup_nil⟩
  | m + 1, sh, hm => by
    rw [List.take_succ_eq_append_getElem hm, cellsOf_snoc]
    exact grow_nodup (cellsOf_nodup m sh (by omega)) fun c hc => (cellsOf_all m sh (by omega) c hc).1
theorem cellsOf_len : ∀ (m : Nat) (sh : List Int), m ≤ sh.length → (∀ b ∈ sh, 0 ≤ b) → (cellsOf (sh.take m)).length = 2 ^ (sh.take m).sum.toNat ∧ 0 ≤ (sh.take m).sum
  | 0, sh, _, _ => by
    rw [List.take_zero]
    exact ⟨rfl, Int.le_refl _⟩
  | m + 1, sh, hm, h0 => by
    obtain ⟨h1, h2⟩ := cellsOf_len m sh (by omega) h0
    have hb := h0 _ (List.getElem_mem hm)
    rw [List.take_succ_eq_append_getElem hm, cellsOf_snoc, grow_len, h1, List.sum_append, List.sum_singleton, Int.toNat_add h2 hb, Nat.pow_add]
    exact ⟨rfl, by omega⟩
theorem mem_le_sum : ∀ (xs : List Int), (∀ x ∈ xs, 0 ≤ x) → ∀ x ∈ xs, x ≤ xs.sum
  | [], _, x, hx => by cases hx
  | y :: xs, h, x, hx => by
    rw [List.sum_cons]
    have h0 := sumNN xs fun y hy => h y (List.mem_cons_of_mem _ hy)
    have h1 := h y List.mem_cons_self
    rcases List.mem_cons.mp hx with e | e
    · omega
    · have := mem_le_sum xs (fun y hy => h y (List.mem_cons_of_mem _ hy)) x e
      omega
theorem sum_take_le (xs : List Int) (h : ∀ x ∈ xs, 0 ≤ x) (m : Nat) : (xs.take m).sum ≤ xs.sum := by
  have e : xs.sum = (xs.take m).sum + (xs.drop m).sum := by rw [← List.sum_append, List.take_append_drop]
  have := sumNN (xs.drop m) fun y hy => h y (List.mem_of_mem_drop hy)
  omega
theorem map_int_snoc (c : List Int) (v : Int) : c.map V.int ++ [.int v] = (c ++ [v]).map V.int := by
  rw [List.map_append]
  rfl
theorem catA {X : Cx} (K : PySem.W.Frag) (h : X.K = K := by rfl) : OpR X (binaryOp .Add) (rCatA K) := by
  subst h
  exact op_catA
theorem catA_do {H : Hp} {a b : Addr} {xs : List V} {y : V} {Q : VK} (ha : SqT K H a xs) (hb : H b = some (.tup [y])) (hl : xs.length ≤ 1000) (q : ∀ r H', Same H H' → H' r = some (.tup (xs ++ [y])) → Q (.ref r) H') : rCatA K (.ref a) (.ref b) H Q := by
  refine ⟨a, b, xs, [y], rfl, rfl, ha, sqT_of hb, le_size (by show xs.length + 1 ≤ _; omega), fun e => ?_, fun _ e => absurd e (by simp), fun _ _ p np => ?_⟩
  · subst e
    exact q b H (fun _ _ h => h) hb
  · exact q p _ (same_new np) upd_same
theorem CellOk.of {sh cs : List Int} {l : List Nat} (e : cnts l sh.length = sh) (h : BoundC sh cs) : CellOk l sh.length cs := by
  refine ⟨h.1, fun k hk => (h.2 k hk).1, fun k hk => ?_⟩
  have := (h.2 k hk).2
  have g : sh.getD k 0 = (l.count (97 + k) : Nat) := by
    have h1 := cnts_at (l := l) hk
    rw [e] at h1
    rw [List.getD_eq_getElem?_getD, h1]
    rfl
  rw [g, Int.toNat_natCast] at this
  exact this
theorem BoundC.nat {sh c : List Int} (hs : ShOk sh) (h : BoundC sh c) : ∀ i ∈ c, i.natAbs < 2 ^ 240 := fun i hi => by
  obtain ⟨k, hk, rfl⟩ := memG hi
  rw [h.1] at hk
  have h1 := h.2 k hk
  have h2 := hs.at hk
  exact nn_lt h1.1 (lt_pow h1.2 (by omega))
theorem rgV_nat (N : Nat) : rgV 0 ((N : Nat) : Int) = ((List.range N).map fun i => ((i : Nat) : Int)).map V.int := by
  unfold rgV
  rw [Int.sub_zero, Int.toNat_natCast, List.map_map]
  apply List.map_congr_left
  intro i _
  simp only [Function.comp, Int.zero_add]
end
end WK
/-! ## enumerate of a tuple -/
namespace WK
open PySem PySem.Spec PySem.W PyProof.Rows L2
set_option maxHeartbeats 4000000 in
theorem meets_enum1 {v : Value} {o : Obj} {H : Heap → Prop} (B : Begins v o H) :
    Meets (Builtin.«enumerate.__new__» ⟨[.type "enumerate", v], []⟩) (fun _ R s => H s.heap ∧
      R (.ok (.ret (.ref (s.heap.push o).objs.size))) { s with heap := (s.heap.push o).push { cls := .type "enumerate", data := .fields #[.none, .bool false, .ref s.heap.objs.size, rawInt 0, .none, .none] } }) :=
  .of_wp fun prog w A R s h => by
    obtain ⟨hp, g, d, tk, os⟩ := s; obtain ⟨h1, h⟩ := h
    have hsub := sub_enumerate
    have q1 : ∀ {A' : Around} {E : Value → Shared → Prop} {Q : Value → Shared → Prop}, Q (.ref hp.objs.size) ⟨hp.push o, g, d, tk, os⟩ → wpAny (model prog w) A' (pyIter v) Q E ⟨hp, g, d, tk, os⟩ :=
      fun q => B.iter prog w _ _ ⟨hp, g, d, tk, os⟩ _ h1 q
    wp_walk using q1
    refine wpAny_stack_any fun st => wpAny_pure ?_
    split
    · rename_i c _ _ _ _ _
      cases (c == Value.type "enumerate")
      · wp_walk using q1
        exact ⟨_, rfl, h⟩
      · wp_walk using q1
        exact ⟨_, rfl, h⟩
    · wp_walk using q1
      exact ⟨_, rfl, h⟩
theorem call_enum1 {prog : Program} {w : World} {A : Around} {E : Value → Shared → Prop} {s : Shared} {v : Value} {o : Obj} {H : Heap → Prop} {Q : Value → Shared → Prop} (B : Begins v o H) (h1 : H s.heap)
    (h : ∀ h', IsEnum h' (s.heap.objs.size + 1) s.heap.objs.size 0 .none → h'.get? s.heap.objs.size = some o → h'.objs.size = s.heap.objs.size + 2 →
      (∀ b o, s.heap.get? b = some o → h'.get? b = some o) → Q (.ref (s.heap.objs.size + 1)) { s with heap := h' }) :
    wpAny (model prog w) A (call (.type "enumerate") [v]) Q E s := by
  refine callType_new F.called_enumerate (by decide) (F.typeCall_enumerate_1 _) (F.newCall_enumerate_1 _) (fun obj => F.args_object_init_2 obj _) F.entry_enumerate_new
    (meets_enum1 B) ⟨h1, ?_⟩
  have hz : (s.heap.push o).objs.size = s.heap.objs.size + 1 := Heap.size_push ..
  show _ ∧ _
  rw [hz]
  have he : IsEnum ((s.heap.push o).push { cls := .type "enumerate", data := .fields #[.none, .bool false, .ref s.heap.objs.size, rawInt 0, .none, .none] }) (s.heap.objs.size + 1) s.heap.objs.size 0 .none := by
    have := Heap.get?_push_size (s.heap.push o) (o := { cls := .type "enumerate", data := .fields #[.none, .bool false, .ref s.heap.objs.size, rawInt 0, .none, .none] }) rfl
    rw [hz] at this; exact this
  refine ⟨⟨_, he, rfl⟩, h _ he (Heap.get?_push_of_some _ (Heap.get?_push_size _ B.free)) (by rw [Heap.size_push, hz]) fun b o x => Heap.get?_push_of_some _ (Heap.get?_push_of_some _ x)⟩
/-- the tuple at a as it stands, each item in a new pair -/
def IteT (K : PySem.W.Frag) (a : Addr) : It :=
  ⟨fun i H => ∃ (xs : List V) (x : V), SqT K H a xs ∧ xs[i]? = some x, fun i H v H' => ∃ T x, v = .ref T ∧ H T = none ∧ H' = upd H T (.tup [.int (i : Nat), x]) ∧ ∀ xs, SqT K H a xs → xs[i]? = some x, fun i H => ∃ xs : List V, SqT K H a xs ∧ xs.length ≤ i⟩
theorem turn_enumT {P : Program} {w : World} {K : PySem.W.Frag} {elts : List Expr} {kk : Nat} {tpos : Pos} (a e it : Addr) (hat : a ≠ it) (hae : a ≠ e) :
    Turn P w K (.Tuple elts kk tpos) (IteT K a) [e, it] e (fun i h => (∃ old, IsEnum h e it ((i : Nat) : Int) old) ∧ h.IsTupleIter it a i ∧ e ≠ it) where
  mem := by simp
  obj := fun i h st b hb => by
    obtain ⟨⟨old, he⟩, ⟨o, ho, hc, hd⟩, _⟩ := st
    have e' : b = e ∨ b = it := by simpa using hb
    rcases e' with z | z
    · rw [z]; exact ⟨_, he, fun v q => nomatch q⟩
    · rw [z]; exact ⟨o, ho, fun v q => by rw [hd] at q; cases q⟩
  keep := fun i h h' st k => let ⟨⟨old, he⟩, hi, hne⟩ := st; ⟨⟨old, k e (by simp) _ he⟩, hi.at fun o q => k it (by simp) o q, hne⟩
  item := by
    intro X hP hw hK hc i pins s σ H E I hf st hg
    subst hP hw hK
    obtain ⟨⟨old, he⟩, hit, hne⟩ := st
    obtain ⟨xs, x, hq, hx⟩ := hg
    obtain ⟨its, rv, p, hz⟩ := I.tuple hq
    obtain ⟨u, hu, ru⟩ := rv.get hx
    have hel : e < s.heap.objs.size := Heap.lt_size he
    have hil : it < s.heap.objs.size := by obtain ⟨_, q, _⟩ := hit; exact Heap.lt_size q
    have hlt : i < its.toArray.size := by
      rw [List.size_toArray, ← rv.length]
      exact (List.getElem?_eq_some_iff.mp hx).1
    refine wpAny_pyNext_enum_itemD (Draws.tuple (A := X.A.in1) (I.ok.hd hc) it a hat its.toArray) he ⟨hit, p⟩ hlt hne (by simp only [List.mem_cons, List.not_mem_nil, or_false]; rintro (z | z); exact hne z; exact hae z.symm) fun x' h' tk hPx ho hst' hT hsz hk => ?_
    obtain ⟨hit', _⟩ := hst'
    have eu : x' = u := by
      have h1 : its.toArray[i]? = some u := by simpa using hu
      rw [h1] at hPx
      exact (Option.some.inj hPx).symm
    subst eu
    refine ⟨_, rfl, wpAny_letOwnedTupleGo_enum (s := { s with heap := h', toks := tk + 1 }) ho fun h'' he' sb => ?_⟩
    have hT2 : h''.get? s.heap.objs.size = some { cls := .type "tuple", data := .seq #[.int i tk, x'] } := (sb.2 _ (Nat.ne_of_gt hel)).trans hT
    have new : ObjOk X.prog X.w (upd H s.heap.objs.size (.tup [.int (i : Nat), x])) h'' s.heap.objs.size (.tup [.int (i : Nat), x]) :=
      ⟨by show 2 ≤ sizeLine; decide, [.int i tk, x'], .cons ⟨_, rfl⟩ (.cons ru .nil), ⟨_, hT2, rfl, _, rfl⟩⟩
    have I1 : Inv X pins σ (upd H s.heap.objs.size (.tup [.int (i : Nat), x])) { s with heap := h'', toks := tk + 1 } :=
      I.turnedNew (ch := [e, it]) (fun b ob hb q => (sb.2 b (fun z => hb (by simp [z]))).trans (hk b ob (fun z => hb (by simp [z])) (fun z => hb (by simp [z])) q)) hf (Nat.le_refl _) new
    refine ⟨.ref s.heap.objs.size, _, I1, rfl, ⟨_, x, rfl, I.hok.fresh (Nat.le_refl _), rfl, fun ys hy => by rw [I.tuple_inj hy hq]; exact hx⟩, ⟨⟨x', ?_⟩, hit'.at fun o q => (sb.2 it (Ne.symm hne)).trans q, hne⟩, fun b hb => ?_⟩
    · have e1 : ((i + 1 : Nat) : Int) = (i : Int) + 1 := by omega
      rw [e1]; exact he'
    · have hb' : b < s.heap.objs.size := by
        have e' : b = e ∨ b = it := by simpa using hb
        rcases e' with z | z
        · rw [z]; exact hel
        · rw [z]; exact hil
      rw [upd_ne (Nat.ne_of_lt hb')]
      exact (hf b hb).1
  done := by
    intro X hP hw hK hc i pins s σ H E I hf st hg
    subst hP hw hK
    obtain ⟨⟨old, he⟩, hit, hne⟩ := st
    obtain ⟨xs, hq, hx⟩ := hg
    obtain ⟨its, rv, p, hz⟩ := I.tuple hq
    obtain ⟨f0, f1, f2, f3, f4, f5⟩ := hf it (by simp)
    have hl := rv.length
    have hT : s.TypeIs (.ref e) "enumerate" := ⟨_, he, rfl⟩
    unfold pyNext
    refine wpAny_bind (wpAny_attempt (wpAny_callSpecial?_slot (name := Str.ofString "__next__") hT F.slot_enumerate_next
      (wpAny_call_entry F.slot_enumerate_next hT F.entry_enumerate_next ?_ (F.args_enumerate_next_1 _))))
    show wpAny _ _ (field (.ref e) 2 >>= _) _ _ _
    refine wpAny_bind (wpAny_field he rfl (x := .ref it) rfl ?_)
    refine wpAny_bind (wpAny_nextOf_tuple_end (I.ok.hd hc) hit p (by simp; omega) fun h' x eb hx' => ?_)
    obtain ⟨o, ho, hc⟩ := hx'
    refine wpAny_bind (wpAny_isInstance (T := "StopIteration") (b := true) ⟨o, ho, hc⟩ isSubtype_stop ?_)
    exact wpAny_pure ⟨rfl, I.turned (t' := s.toks) (fun b o hb q => eb b o hb q) f0 f1 f3 f4 f5⟩
  self := fun A i s Q E st h => let ⟨⟨_, he⟩, _⟩ := st; wpAny_pyIter_enum he h
def iEnumT (K : PySem.W.Frag) (ta : TA) : TI := fun σ H R => ta σ H fun vs H1 => ∃ a xs, vs = [.ref a] ∧ SqT K H1 a xs ∧ R (IteT K a) H1
theorem piEnumT {X : Cx} (K : PySem.W.Frag) {e : Expr} {ta : TA} {p pos tpos : Pos} {elts : List Expr} {kk : Nat} (hm : X.mg "enumerate" = none) (ha : PA X [e] ta) (hK : X.K = K := by rfl) (hg : Gl X "enumerate" := by rfl) (hs : starEach [e] X.env = [(false, eval e X.env)] := by rfl) :
    PI X (.Tuple elts kk tpos) (.Call (.Name "enumerate" p) [e] [] pos) (iEnumT K ta) := by
  subst hK
  refine ⟨fun pins s σ H R I h => ?_⟩
  refine Call_ (ld_blt I hg hm boot_enumerate (PyProof.Rows.callWith_type1 (thn (ha.run pos pins s σ H _ I h) fun us s1 ⟨vs, H1, I1, r1, q1⟩ => ?_) hs rfl))
  obtain ⟨a, xs, ex, hq, q⟩ := q1
  subst ex
  cases r1 with
  | cons r rr =>
    cases rr
    cases r
    obtain ⟨its, rv, p', hz⟩ := I1.tuple hq
    have hal : a < s1.heap.objs.size := by
      obtain ⟨o, ho, _⟩ := id p'
      exact Heap.lt_size ho
    refine call_enum1 (begins_tuple a its.toArray) p' fun h' he hit hsz hk => wpAny_pyIter_enum he ?_
    have I2 : Inv X pins σ H1 { s1 with heap := h' } := I1.kept (t' := s1.toks) hk
    refine ⟨s1.heap.objs.size + 1, [s1.heap.objs.size + 1, s1.heap.objs.size], _, _, H1, rfl, I2, turn_enumT a (s1.heap.objs.size + 1) s1.heap.objs.size (Nat.ne_of_lt hal) (Nat.ne_of_lt (Nat.lt_succ_of_lt hal)), ⟨⟨.none, he⟩, ⟨_, hit, rfl, rfl⟩, Nat.succ_ne_self _⟩, fun b hb => ?_, q⟩
    have e' : b = s1.heap.objs.size + 1 ∨ b = s1.heap.objs.size := by simpa using hb
    have hle : s1.heap.objs.size ≤ b := by
      rcases e' with z | z
      · rw [z]; exact Nat.le_add_right _ _
      · rw [z]; exact Nat.le_refl _
    exact I1.fpOk hle (I1.hok.fresh hle)
theorem walk_enumT {K : PySem.W.Frag} {a : Addr} {xs : List V} : Walk (IteT K a) xs.length (fun H => SqT K H a xs) (YPair (fun i => some (.int (i : Nat))) (fun i => xs[i]?)) := by
  refine ⟨fun i _ hi q => ⟨xs, xs[i], q, by simp [hi]⟩, fun _ q => ⟨xs, q, Nat.le_refl _⟩, fun i H v H' _ q y => ?_⟩
  obtain ⟨T, x, h1, h2, h3, h4⟩ := y
  exact ⟨T, .int (i : Nat), x, h1, h2, h3, rfl, h4 xs q⟩
/-- enumerate of a list -/
theorem piEnum {X : Cx} (K : PySem.W.Frag) {e : Expr} {ta : TA} {p pos tpos : Pos} {elts : List Expr} {kk : Nat} (hm : X.mg "enumerate" = none) (ha : PA X [e] ta) (hK : X.K = K := by rfl) (hg : Gl X "enumerate" := by rfl) (hs : starEach [e] X.env = [(false, eval e X.env)] := by rfl) :
    PI X (.Tuple elts kk tpos) (.Call (.Name "enumerate" p) [e] [] pos) (iEnum K ta) := by
  subst hK
  exact pi_enum hg hm ha hs
end WK
/-! ## parting, order of keys, words of a shape -/
namespace WK
open PySem PySem.Spec PyProof.Rows L2
theorem xor_zero_iff {x y : Nat} : x ^^^ y = 0 ↔ x = y := by
  constructor
  · intro h
    have e : x ^^^ (x ^^^ y) = x := by rw [h, Nat.xor_zero]
    rw [← Nat.xor_assoc, Nat.xor_self, Nat.zero_xor] at e
    exact e.symm
  · intro h
    rw [h, Nat.xor_self]
theorem xor_lt_iff {a b m : Nat} : (a ^^^ b) < 2 ^ m ↔ a / 2 ^ m = b / 2 ^ m := by
  rw [← xor_zero_iff, ← Nat.xor_div_two_pow, Nat.div_eq_zero_iff]
  have := Nat.two_pow_pos m
  omega
/-- the first step at which two keys differ -/
structure IsPart (N : Nat) (K1 K2 : Int) (j : Nat) : Prop where
  lt : j < N
  ne : K1 / 2 ^ (N - 1 - j) ≠ K2 / 2 ^ (N - 1 - j)
  eq : ∀ s, s < j → K1 / 2 ^ (N - 1 - s) = K2 / 2 ^ (N - 1 - s)
theorem part_search (N : Nat) (K1 K2 : Int) : ∀ i, i ≤ N → (∀ s, s < i → K1 / 2 ^ (N - 1 - s) = K2 / 2 ^ (N - 1 - s)) ∨ ∃ j, j < i ∧ IsPart N K1 K2 j
  | 0, _ => .inl fun s hs => absurd hs (by omega)
  | i + 1, h => by
    rcases part_search N K1 K2 i (by omega) with e | ⟨j, hj, hp⟩
    · by_cases d : K1 / 2 ^ (N - 1 - i) = K2 / 2 ^ (N - 1 - i)
      · refine .inl fun s hs => ?_
        by_cases z : s = i
        · rw [z]
          exact d
        · exact e s (by omega)
      · exact .inr ⟨i, by omega, by omega, d, e⟩
    · exact .inr ⟨j, by omega, hp⟩
theorem ediv_mono_eq {K1 K2 : Int} {a b : Nat} (h : K1 / 2 ^ a = K2 / 2 ^ a) (hab : a ≤ b) : K1 / 2 ^ b = K2 / 2 ^ b := by
  obtain ⟨c, rfl⟩ := Nat.exists_eq_add_of_le hab
  rw [Int.pow_add, ← Int.ediv_ediv_of_nonneg (Int.le_of_lt (Int.pow_pos (by decide))), ← Int.ediv_ediv_of_nonneg (Int.le_of_lt (Int.pow_pos (by decide))), h]
theorem IsPart.uniq {N : Nat} {K1 K2 : Int} {i j : Nat} (h : IsPart N K1 K2 i) (g : IsPart N K1 K2 j) : i = j := by
  rcases Nat.lt_trichotomy i j with l | l | l
  · exact absurd (g.eq i l) h.ne
  · exact l
  · exact absurd (h.eq j l) g.ne
theorem IsPart.symm {N : Nat} {K1 K2 : Int} {j : Nat} (h : IsPart N K1 K2 j) : IsPart N K2 K1 j := ⟨h.lt, h.ne.symm, fun s hs => (h.eq s hs).symm⟩
theorem part_ex {N : Nat} {K1 K2 : Int} (h : K1 ≠ K2) (hN : 0 < N) : ∃ j, IsPart N K1 K2 j := by
  rcases part_search N K1 K2 N (Nat.le_refl _) with e | ⟨j, _, hp⟩
  · have := e (N - 1) (by omega)
    rw [show N - 1 - (N - 1) = 0 by omega, Int.pow_zero, Int.ediv_one, Int.ediv_one] at this
    exact absurd this h
  · exact ⟨j, hp⟩
/-- the bits of what is apart -/
theorem part_bits {N j B : Nat} {a b : Nat} (hb : ∀ m, B ≤ m ↔ (a ^^^ b) < 2 ^ m) (h : IsPart N (a : Int) (b : Int) j) (ha : a < 2 ^ N) (hb2 : b < 2 ^ N) : B = N - j := by
  have cast : ∀ (x m : Nat), (x : Int) / 2 ^ m = ((x / 2 ^ m : Nat) : Int) := fun x m => by
    rw [Int.natCast_ediv]
    congr 1
  have h1 := h.ne
  have hlt := h.lt
  rw [cast, cast] at h1
  have h2 : ¬ B ≤ N - 1 - j := fun z => h1 (by rw [xor_lt_iff.mp ((hb _).mp z)])
  have h3 : B ≤ N - j := by
    refine (hb _).mpr (xor_lt_iff.mpr ?_)
    by_cases z : j = 0
    · rw [z, Nat.sub_zero, Nat.div_eq_of_lt ha, Nat.div_eq_of_lt hb2]
    · have := h.eq (j - 1) (by omega)
      rw [cast, cast, show N - 1 - (j - 1) = N - j by omega] at this
      exact Int.ofNat.inj this
  omega
/-! ### cells in order, keys in order -/
theorem key_mono {l : List Nat} {n : Nat} {cs ds : List Int} (hc : CellOk l n cs) (hd : CellOk l n ds) (hl : ∀ c ∈ l, 97 ≤ c ∧ c < 97 + n) (h : ∀ k, k < n → cs.getD k 0 ≤ ds.getD k 0) :
    ∀ j, j ≤ l.length → keyN l cs j < keyN l ds j ∨ (keyN l cs j = keyN l ds j ∧ ∀ k, k < n → cs.getD k 0 / 2 ^ (l.count (97 + k) - (l.take j).count (97 + k)) = ds.getD k 0 / 2 ^ (l.count (97 + k) - (l.take j).count (97 + k)))
  | 0, _ => .inr ⟨rfl, fun k hk => by
      rw [List.take_zero, List.count_nil, Nat.sub_zero, Int.ediv_eq_zero_of_lt (hc.lo k hk) (hc.hi k hk), Int.ediv_eq_zero_of_lt (hd.lo k hk) (hd.hi k hk)]⟩
  | j + 1, hj => by
    have hj' : j < l.length := hj
    have hg : l.getD j 0 = l[j] := by rw [List.getD_eq_getElem?_getD, List.getElem?_eq_getElem hj']; rfl
    obtain ⟨c1, c2⟩ := hl _ (List.getElem_mem hj')
    have hlt := cnt_lt hj'
    rw [← hg] at c1 c2 hlt
    obtain ⟨k, hk⟩ : ∃ k, l.getD j 0 = 97 + k := ⟨l.getD j 0 - 97, by omega⟩
    have hkn : k < n := by omega
    have hmono := Int.ediv_le_ediv (c := 2 ^ (l.count (97 + k) - (l.take j).count (97 + k) - 1)) (Int.pow_pos (by decide)) (h k hkn)
    rw [keyN, keyN, hk, show 97 + k - 97 = k by omega]
    rw [hk] at hlt
    rcases key_mono hc hd hl h j (by omega) with a | ⟨a, b⟩
    · left
      generalize cs.getD k 0 / 2 ^ (l.count (97 + k) - (l.take j).count (97 + k) - 1) = X
      generalize ds.getD k 0 / 2 ^ (l.count (97 + k) - (l.take j).count (97 + k) - 1) = Y
      omega
    · have bk := b k hkn
      rw [show l.count (97 + k) - (l.take j).count (97 + k) = (l.count (97 + k) - (l.take j).count (97 + k) - 1) + 1 by omega, ediv_pow_succ', ediv_pow_succ'] at bk
      by_cases e : cs.getD k 0 / 2 ^ (l.count (97 + k) - (l.take j).count (97 + k) - 1) = ds.getD k 0 / 2 ^ (l.count (97 + k) - (l.take j).count (97 + k) - 1)
      · right
        refine ⟨by rw [a, e], fun i hi => ?_⟩
        rw [count_step hj', hk]
        by_cases z : i = k
        · subst z
          rw [if_pos rfl, ← Nat.sub_sub]
          exact e
        · rw [if_neg (by omega), Nat.add_zero]
          exact b i hi
      · left
        generalize cs.getD k 0 / 2 ^ (l.count (97 + k) - (l.take j).count (97 + k) - 1) = X at *
        generalize ds.getD k 0 / 2 ^ (l.count (97 + k) - (l.take j).count (97 + k) - 1) = Y at *
        omega
theorem key_lt {l : List Nat} {n : Nat} {cs ds : List Int} (hc : CellOk l n cs) (hd : CellOk l n ds) (hl : ∀ c ∈ l, 97 ≤ c ∧ c < 97 + n) (h : ∀ k, k < n → cs.getD k 0 ≤ ds.getD k 0) (hne : cs ≠ ds) : keyN l cs l.length < keyN l ds l.length := by
  rcases key_mono hc hd hl h l.length (Nat.le_refl _) with a | ⟨a, _⟩
  · exact a
  · exact absurd (keyN_inj hc hd a) hne
theorem key_axis {l : List Nat} {cs : List Int} {k c : Nat} (hp : l.take c = List.replicate c (97 + k)) (hc : l.count (97 + k) = c) (hcl : c ≤ l.length) (h0 : 0 ≤ cs.getD k 0) (h1 : cs.getD k 0 < 2 ^ c) : ∀ j, j ≤ c → keyN l cs j = cs.getD k 0 / 2 ^ (c - j)
  | 0, _ => by rw [keyN, Nat.sub_zero, Int.ediv_eq_zero_of_lt h0 h1]
  | j + 1, hj => by
    have ih := key_axis hp hc hcl h0 h1 j (by omega)
    have hg : l.getD j 0 = 97 + k := by
      have : l[j]? = (l.take c)[j]? := by rw [List.getElem?_take_of_lt (by omega)]
      rw [List.getD_eq_getElem?_getD, this, hp, List.getElem?_replicate, if_pos (by omega)]
      rfl
    have ht : (l.take j).count (97 + k) = j := by
      rw [show l.take j = (l.take c).take j by rw [List.take_take, Nat.min_eq_left (by omega)], hp, List.take_replicate, List.count_replicate_self, Nat.min_eq_left (by omega)]
    rw [keyN, hg, ih, ht, hc, show 97 + k - 97 = k by omega]
    obtain ⟨m, rfl⟩ : ∃ m, c = j + 1 + m := ⟨c - (j + 1), by omega⟩
    rw [show j + 1 + m - j = m + 1 by omega, show m + 1 - 1 = m by omega, show j + 1 + m - (j + 1) = m by omega, ediv_pow_succ']
    generalize cs.getD k 0 / 2 ^ m = X
    omega
theorem key_axis_lt {l : List Nat} {cs ds : List Int} {k c : Nat} (hp : l.take c = List.replicate c (97 + k)) (hc : l.count (97 + k) = c) (hcl : c ≤ l.length) (h0 : 0 ≤ cs.getD k 0) (h1 : ds.getD k 0 < 2 ^ c) (h : cs.getD k 0 < ds.getD k 0) : keyN l cs l.length < keyN l ds l.length := by
  have a := key_axis (cs := cs) hp hc hcl h0 (by omega) c (Nat.le_refl _)
  have b := key_axis (cs := ds) hp hc hcl (by omega) h1 c (Nat.le_refl _)
  rw [Nat.sub_self, Int.pow_zero, Int.ediv_one] at a b
  have a2 := keyN_div l cs c (l.length - c)
  have b2 := keyN_div l ds c (l.length - c)
  rw [show c + (l.length - c) = l.length by omega] at a2 b2
  by_cases z : keyN l cs l.length < keyN l ds l.length
  · exact z
  · have := Int.ediv_le_ediv (c := 2 ^ (l.length - c)) (Int.pow_pos (by decide)) (Int.not_lt.mp z)
    omega
/-! ### all words of a shape -/
def words : Nat → List Int → List (List Nat)
  | 0, _ => [[]]
  | m + 1, sh => (List.range sh.length).flatMap fun k => if 0 < sh.getD k 0 then (words m (sh.set k (sh.getD k 0 - 1))).map (fun l => (97 + k) :: l) else []
theorem set_getD {sh : List Int} {k j : Nat} {v : Int} (hk : k < sh.length) : (sh.set k v).getD j 0 = if j = k then v else sh.getD j 0 := by
  by_cases e : j = k
  · subst e
    rw [if_pos rfl, List.getD_eq_getElem?_getD, List.getElem?_set_self hk]
    rfl
  · rw [if_neg e, List.getD_eq_getElem?_getD, List.getElem?_set_ne (Ne.symm e), ← List.getD_eq_getElem?_getD]
theorem sum_setD : ∀ {sh : List Int} {k : Nat} {v : Int}, k < sh.length → (sh.set k v).sum = sh.sum - sh.getD k 0 + v
  | x :: xs, 0, v, _ => by
    show v + xs.sum = x + xs.sum - x + v
    omega
  | x :: xs, k + 1, v, h => by
    have := sum_setD (sh := xs) (k := k) (v := v) (by simpa using h)
    show x + (xs.set k v).sum = x + xs.sum - xs.getD k 0 + v
    omega
structure NN (m : Nat) (sh : List Int) : Prop where
  nn : ∀ x ∈ sh, 0 ≤ x
  sm : sh.sum = (m : Int)
theorem NN.step {m k : Nat} {sh : List Int} (h : NN (m + 1) sh) (hk : k < sh.length) (hp : 0 < sh.getD k 0) : NN m (sh.set k (sh.getD k 0 - 1)) := by
  refine ⟨fun x hx => ?_, ?_⟩
  · obtain ⟨j, hj, rfl⟩ := memG hx
    rw [List.length_set] at hj
    rw [set_getD hk]
    split
    · omega
    · exact h.nn _ (gMem hj)
  · rw [sum_setD hk, h.sm]
    omega
theorem words_ok : ∀ (m : Nat) (sh : List Int), NN m sh → ∀ l ∈ words m sh, l.length = m ∧ (∀ c ∈ l, 97 ≤ c ∧ c < 97 + sh.length) ∧ ∀ k, k < sh.length → (l.count (97 + k) : Int) = sh.getD k 0
  | 0, sh, h, l, hl => by
    rw [List.mem_singleton.mp hl]
    refine ⟨rfl, fun c hc => (by cases hc), fun k hk => ?_⟩
    have z := h.nn _ (gMem hk)
    have : sh.getD k 0 = 0 := by
      rcases Int.lt_or_eq_of_le z with g | g
      · exfalso
        have h1 : sh = sh.take k ++ sh.drop k := (List.take_append_drop k sh).symm
        have h2 : sh.drop k = sh[k] :: sh.drop (k + 1) := List.drop_eq_getElem_cons hk
        have h3 := h.sm
        rw [h1, h2, List.sum_append, List.sum_cons] at h3
        have a := sumNN (sh.take k) fun x hx => h.nn x (List.mem_of_mem_take hx)
        have b := sumNN (sh.drop (k + 1)) fun x hx => h.nn x (List.mem_of_mem_drop hx)
        have : sh.getD k 0 = sh[k] := by rw [List.getD_eq_getElem?_getD, List.getElem?_eq_getElem hk]; rfl
        omega
      · exact g.symm
    rw [this]
    rfl
  | m + 1, sh, h, l, hl => by
    rw [words, List.mem_flatMap] at hl
    obtain ⟨k, hk, hl⟩ := hl
    have hk' := List.mem_range.mp hk
    split at hl
    · rename_i hp
      obtain ⟨l', hl', rfl⟩ := List.mem_map.mp hl
      obtain ⟨a, b, c⟩ := words_ok m _ (h.step hk' hp) l' hl'
      rw [List.length_set] at b c
      refine ⟨by rw [List.length_cons, a], fun c' hc' => ?_, fun j hj => ?_⟩
      · rcases List.mem_cons.mp hc' with e | e
        · omega
        · exact b c' e
      · have cj := c j hj
        rw [set_getD hk'] at cj
        rw [List.count_cons]
        by_cases e : j = k
        · subst e
          rw [if_pos rfl] at cj
          rw [if_pos (beq_self_eq_true _)]
          omega
        · rw [if_neg e] at cj
          rw [if_neg (by rw [beq_iff_eq]; omega)]
          omega
    · cases hl
theorem words_cons {m k : Nat} {sh : List Int} {l : List Nat} (hk : k < sh.length) (hp : 0 < sh.getD k 0) (hl : l ∈ words m (sh.set k (sh.getD k 0 - 1))) : (97 + k) :: l ∈ words (m + 1) sh := by
  rw [words, List.mem_flatMap]
  refine ⟨k, List.mem_range.mpr hk, ?_⟩
  rw [if_pos hp]
  exact List.mem_map.mpr ⟨l, hl, rfl⟩
theorem words_ne : ∀ (m : Nat) (sh : List Int), NN m sh → ∃ l, l ∈ words m sh
  | 0, _, _ => ⟨[], List.mem_singleton.mpr rfl⟩
  | m + 1, sh, h => by
    obtain ⟨k, hk, hp⟩ := sum_pos_ex sh h.nn (by rw [h.sm]; omega)
    obtain ⟨l, hl⟩ := words_ne m _ (h.step hk hp)
    exact ⟨_, words_cons hk hp hl⟩
theorem words_lead : ∀ (c m : Nat) (sh : List Int) (k : Nat), NN m sh → k < sh.length → sh.getD k 0 = (c : Int) → ∃ l, l ∈ words m sh ∧ l.take c = List.replicate c (97 + k)
  | 0, m, sh, k, h, _, _ => by
    obtain ⟨l, hl⟩ := words_ne m sh h
    exact ⟨l, hl, by rw [List.take_zero]; rfl⟩
  | c + 1, 0, sh, k, h, hk, e => by
    exfalso
    have h1 := words_ok 0 sh h [] (List.mem_singleton.mpr rfl)
    have := h1.2.2 k hk
    rw [List.count_nil] at this
    omega
  | c + 1, m + 1, sh, k, h, hk, e => by
    have hp : 0 < sh.getD k 0 := by omega
    obtain ⟨l, hl, ht⟩ := words_lead c m _ k (h.step hk hp) (by rw [List.length_set]; exact hk) (by rw [set_getD hk, if_pos rfl]; omega)
    exact ⟨_, words_cons hk hp hl, by rw [List.take_succ_cons, ht, List.replicate_succ]⟩
theorem flatMap_len_le {α : Type} (f : Nat → List α) (B : Nat) : ∀ n : Nat, (∀ k, k < n → (f k).length ≤ B) → ((List.range n).flatMap f).length ≤ n * B
  | 0, _ => Nat.zero_le _
  | n + 1, h => by
    rw [List.range_succ, List.flatMap_append, List.length_append]
    have := flatMap_len_le f B n fun k hk => h k (by omega)
    have h2 := h n (by omega)
    simp only [List.flatMap_cons, List.flatMap_nil, List.append_nil]
    rw [Nat.succ_mul]
    omega
theorem words_len : ∀ (m : Nat) (sh : List Int), sh.length ≤ 4 → (words m sh).length ≤ 4 ^ m
  | 0, _, _ => Nat.le_refl _
  | m + 1, sh, h => by
    rw [words]
    refine Nat.le_trans (flatMap_len_le _ (4 ^ m) _ fun k hk => ?_) ?_
    · split
      · rw [List.length_map]
        exact words_len m _ (by rw [List.length_set]; exact h)
      · exact Nat.zero_le _
    · rw [Nat.pow_succ, Nat.mul_comm]
      exact Nat.mul_le_mul_left _ h
theorem eqv_ints_iff : ∀ xs ys : List Int, PyData.eqvAll (xs.map .int) (ys.map .int) = decide (xs = ys)
  | [], [] => rfl
  | [], y :: ys => rfl
  | x :: xs, [] => rfl
  | x :: xs, y :: ys => by
    rw [List.map_cons, List.map_cons, PyData.eqvAll, PyData.eqv, eqv_ints_iff xs ys]
    by_cases h : x = y
    · subst h
      by_cases g : xs = ys
      · subst g
        simp
      · rw [decide_eq_false g, decide_eq_false (fun z => g (List.cons.inj z).2)]
        simp
    · rw [decide_eq_false (fun z => h (List.cons.inj z).1), beq_eq_false_iff_ne.mpr h]
      rfl
/-- two tuples of ints: equal exactly if the ints are -/
theorem eqT_do {K : PySem.W.Frag} {a b : Addr} {xs ys : List Int} {H : Hp} {Q : VK} (ha : SqT K H a (xs.map V.int)) (hb : SqT K H b (ys.map V.int)) (q : Q (.bl (decide (xs = ys))) H) : rEqD K (.ref a) (.ref b) H Q := by
  refine ⟨_, _, dp_tup ha, dp_tup hb, LOk.intsT.shaped, LOk.intsT.shaped, ?_⟩
  rw [PyData.eqv, eqv_ints_iff]
  exact q
/-! ### one place of a tuple exchanged -/
theorem cut_head {xs : List V} {i : Nat} (h : i ≤ xs.length) : cutV xs none (some (i : Int)) = xs.take i := by
  unfold cutV
  rw [HT.sIx_none, HT.sIx_nat, List.drop_zero, Nat.sub_zero, Nat.min_eq_left h]
theorem cut_tail {xs : List V} {i : Nat} (h : i ≤ xs.length) : cutV xs (some (i : Int)) none = xs.drop i := by
  unfold cutV
  rw [HT.sIx_none, HT.sIx_nat, Nat.min_eq_left h, List.take_of_length_le (by rw [List.length_drop]; exact Nat.le_refl _)]
theorem cutT_do {K : PySem.W.Frag} {H : Hp} {p : Addr} {xs : List V} {i : Nat} {Q : VK} (hp : SqT K H p xs) (hi : i < xs.length) (q : ∀ r, H r = none → Q (.ref r) (upd H r (.tup (xs.take i)))) : rSlT K (.ref p) none (some (i : Int)) H Q := by
  refine ⟨p, xs, rfl, hp, fun h => ?_, fun r nr => ?_⟩
  · have := h.2
    rw [HT.sIx_nat] at this
    omega
  · rw [cut_head (by omega)]
    exact q r nr
theorem dropT_do {K : PySem.W.Frag} {H : Hp} {p : Addr} {xs : List V} {i : Nat} {Q : VK} (hp : SqT K H p xs) (hi : i < xs.length) (q : ∀ r, H r = none → Q (.ref r) (upd H r (.tup (xs.drop (i + 1))))) : rSlT K (.ref p) (some ((i : Int) + 1)) none H Q := by
  have e : (i : Int) + 1 = ((i + 1 : Nat) : Int) := by omega
  rw [e]
  refine ⟨p, xs, rfl, hp, fun h => ?_, fun r nr => ?_⟩
  · have := h.1
    rw [HT.sIx_nat] at this
    omega
  · rw [cut_tail (by omega)]
    exact q r nr
theorem catA2_do {K : PySem.W.Frag} {H : Hp} {a b : Addr} {xs ys : List V} {Q : VK} (ha : H a = some (.tup xs)) (hb : H b = some (.tup ys)) (hl : xs.length + ys.length ≤ 1000) (q : ∀ r H', Same H H' → H' r = some (.tup (xs ++ ys)) → Q (.ref r) H') : rCatA K (.ref a) (.ref b) H Q := by
  refine ⟨a, b, xs, ys, rfl, rfl, sqT_of ha, sqT_of hb, le_size (by omega), fun e => ?_, fun _ e => ?_, fun _ _ p np => ?_⟩
  · subst e
    exact q b H (fun _ _ h => h) hb
  · subst e
    exact q a H (fun _ _ h => h) (by rw [List.append_nil]; exact ha)
  · exact q p _ (same_new np) upd_same
theorem set_parts {xs : List V} {i : Nat} {v : V} (h : i < xs.length) : xs.take i ++ [v] ++ xs.drop (i + 1) = xs.set i v := by
  rw [List.set_eq_take_append_cons_drop, if_pos h, List.append_assoc]
  rfl
/-- x[:i] + (v,) + x[i + 1:] -/
theorem put_do {K : PySem.W.Frag} {H : Hp} {p : Addr} {xs : List V} {i : Nat} {v : V} {Q : VK} (hp : SqT K H p xs) (hi : i < xs.length) (hl : xs.length ≤ 400) (q : ∀ r H', Same H H' → H' r = some (.tup (xs.set i v)) → Q (.ref r) H') :
    rSlT K (.ref p) none (some (i : Int)) H fun x H1 => 1 ≤ sizeLine ∧ ∀ p1, H1 p1 = none → rCatA K x (.ref p1) (upd H1 p1 (.tup [v])) fun x H1 => rSlT K (.ref p) (some ((i : Int) + 1)) none H1 fun y H2 => rCatA K x y H2 Q :=
  cutT_do hp hi fun r nr => ⟨le_size (by decide), fun p1 np1 => catA2_do (upd_new np1 upd_same) upd_same (by rw [List.length_take, List.length_singleton]; omega) fun r2 H2 s2 h2 =>
    dropT_do ((((same_new nr).new np1).trans s2).sqT hp) hi fun r3 nr3 => catA2_do (upd_new nr3 h2) upd_same (by rw [List.length_append, List.length_take, List.length_drop, List.length_singleton]; omega) fun r4 H4 s4 h4 =>
      q r4 H4 ((((same_new nr).new np1).trans s2).new nr3 |>.trans s4) (by rw [h4, set_parts hi])⟩
theorem map_set_int {xs : List Int} {i : Nat} {v : Int} : (xs.map V.int).set i (.int v) = (xs.set i v).map V.int := by
  rw [List.map_set]
/-! ### what is told of two cells -/
def exLt (cs ds : List Int) (n : Nat) : Bool := (List.range n).any fun k => decide (cs.getD k 0 < ds.getD k 0)
def precS (cs ds : List Int) (n : Nat) : Str := if cs = ds then "same" else if exLt cs ds n = true ∧ exLt ds cs n = true then "sometimes" else if exLt cs ds n = true then "always" else "never"
theorem exLt_iff {cs ds : List Int} {n : Nat} : exLt cs ds n = true ↔ ∃ k, k < n ∧ cs.getD k 0 < ds.getD k 0 := by
  unfold exLt
  simp only [List.any_eq_true, List.mem_range, decide_eq_true_eq]
theorem getD_ext {cs ds : List Int} {n : Nat} (h1 : cs.length = n) (h2 : ds.length = n) (h : ∀ k, k < n → cs.getD k 0 = ds.getD k 0) : cs = ds := by
  apply List.ext_getElem?
  intro k
  by_cases hk : k < n
  · have := h k hk
    rw [List.getD_eq_getElem?_getD, List.getD_eq_getElem?_getD, List.getElem?_eq_getElem (by omega), List.getElem?_eq_getElem (by omega)] at this
    rw [List.getElem?_eq_getElem (by omega), List.getElem?_eq_getElem (by omega)]
    exact congrArg some this
  · rw [List.getElem?_eq_none (by omega), List.getElem?_eq_none (by omega)]
theorem exLt_or {cs ds : List Int} {n : Nat} (h1 : cs.length = n) (h2 : ds.length = n) (h : cs ≠ ds) : exLt cs ds n = true ∨ exLt ds cs n = true := by
  by_cases a : exLt cs ds n = true
  · exact .inl a
  · by_cases b : exLt ds cs n = true
    · exact .inr b
    · exfalso
      apply h
      refine getD_ext h1 h2 fun k hk => ?_
      have h3 : ¬ cs.getD k 0 < ds.getD k 0 := fun z => a (exLt_iff.mpr ⟨k, hk, z⟩)
      have h4 : ¬ ds.getD k 0 < cs.getD k 0 := fun z => b (exLt_iff.mpr ⟨k, hk, z⟩)
      omega
theorem prec_cases (cs ds : List Int) {n : Nat} (h1 : cs.length = n) (h2 : ds.length = n) : (precS cs ds n = "same" ∧ precS ds cs n = "same") ∨ (precS cs ds n = "always" ∧ precS ds cs n = "never") ∨ (precS cs ds n = "never" ∧ precS ds cs n = "always") ∨ (precS cs ds n = "sometimes" ∧ precS ds cs n = "sometimes") := by
  unfold precS
  by_cases e : cs = ds
  · left
    rw [if_pos e, if_pos e.symm]
    exact ⟨rfl, rfl⟩
  · rw [if_neg e, if_neg (Ne.symm e)]
    have h := exLt_or h1 h2 e
    cases a : exLt cs ds n <;> cases b : exLt ds cs n <;> simp_all
theorem inV_bls (b : Bool) : ∀ bs : List Bool, inV (.bl b) (bs.map V.bl) = bs.any (· == b)
  | [] => rfl
  | c :: bs => by
    have := inV_bls b bs
    unfold inV at this ⊢
    rw [List.map_cons, List.any_cons, List.any_cons, this]
    cases b <;> cases c <;> rfl
theorem flat_bls (bs : List Bool) : (bs.map V.bl).all flatV = true := by
  rw [List.all_eq_true]
  intro x hx
  obtain ⟨i, _, rfl⟩ := List.mem_map.mp hx
  rfl
theorem words_wok {m : Nat} {sh : List Int} (h : ShOk sh) (hN : NN m sh) {l : List Nat} (hl : l ∈ words m sh) : WOk l sh.length ∧ cnts l sh.length = sh := by
  obtain ⟨a, b, c⟩ := words_ok m sh hN l hl
  refine lft_done h b (by rw [a, hN.sm]) fun k hk => ?_
  rw [lft_get hk, ← c k hk]
  omega
/-- what all words say -/
theorem prec_words {m : Nat} {sh cs ds : List Int} (h : ShOk sh) (hN : NN m sh) (hc : BoundC sh cs) (hd : BoundC sh ds) (hne : cs ≠ ds) :
    ((words m sh).map fun l => decide (keyN l cs l.length < keyN l ds l.length)).any (· == true) = exLt cs ds sh.length ∧ ((words m sh).map fun l => decide (keyN l cs l.length < keyN l ds l.length)).any (· == false) = exLt ds cs sh.length := by
  have lead : ∀ {es fs : List Int}, BoundC sh es → BoundC sh fs → ∀ k, k < sh.length → es.getD k 0 < fs.getD k 0 → ∃ l, l ∈ words m sh ∧ keyN l es l.length < keyN l fs l.length := fun {es fs} he hf k hk hlt => by
    obtain ⟨c, hcc⟩ := Int.eq_ofNat_of_zero_le (show 0 ≤ sh.getD k 0 by have := (h.at hk).1; omega)
    obtain ⟨l, hl, ht⟩ := words_lead c m sh k hN hk hcc
    have hw := words_ok m sh hN l hl
    have hcnt : l.count (97 + k) = c := by have := hw.2.2 k hk; omega
    refine ⟨l, hl, key_axis_lt ht hcnt (by rw [← hcnt]; exact List.count_le_length) (he.2 k hk).1 ?_ hlt⟩
    have := (hf.2 k hk).2
    rw [hcc] at this
    exact this
  have all : ∀ {es fs : List Int}, BoundC sh es → BoundC sh fs → es ≠ fs → exLt fs es sh.length = false → ∀ l, l ∈ words m sh → keyN l es l.length < keyN l fs l.length := fun {es fs} he hf hn hx l hl => by
    obtain ⟨hW, hcl⟩ := words_wok h hN hl
    refine key_lt (CellOk.of hcl he) (CellOk.of hcl hf) hW.rng (fun k hk => ?_) hn
    have : ¬ fs.getD k 0 < es.getD k 0 := fun z => by
      have := exLt_iff.mpr ⟨k, hk, z⟩
      rw [hx] at this
      cases this
    omega
  constructor
  · cases hx : exLt cs ds sh.length with
    | true =>
      obtain ⟨k, hk, hlt⟩ := exLt_iff.mp hx
      obtain ⟨l, hl, hK⟩ := lead hc hd k hk hlt
      rw [List.any_eq_true]
      exact ⟨true, List.mem_map.mpr ⟨l, hl, decide_eq_true hK⟩, rfl⟩
    | false =>
      rw [List.any_eq_false]
      intro b hb
      obtain ⟨l, hl, rfl⟩ := List.mem_map.mp hb
      have := all hd hc (Ne.symm hne) hx l hl
      rw [decide_eq_false (by omega)]
      decide
  · cases hx : exLt ds cs sh.length with
    | true =>
      obtain ⟨k, hk, hlt⟩ := exLt_iff.mp hx
      obtain ⟨l, hl, hK⟩ := lead hd hc k hk hlt
      rw [List.any_eq_true]
      exact ⟨false, List.mem_map.mpr ⟨l, hl, decide_eq_false (by omega)⟩, rfl⟩
    | false =>
      rw [List.any_eq_false]
      intro b hb
      obtain ⟨l, hl, rfl⟩ := List.mem_map.mp hb
      have := all hc hd hne hx l hl
      rw [decide_eq_true this]
      decide
def signsOf (cs ds : List Int) (n : Nat) : List Bool := ((List.range n).filter fun k => decide (cs.getD k 0 ≠ ds.getD k 0)).map fun k => decide (cs.getD k 0 < ds.getD k 0)
theorem prec_signs {cs ds : List Int} {n : Nat} : (signsOf cs ds n).any (· == true) = exLt cs ds n ∧ (signsOf cs ds n).any (· == false) = exLt ds cs n := by
  unfold signsOf exLt
  constructor <;> rw [Bool.eq_iff_iff] <;> simp only [List.any_map, List.any_filter, List.any_eq_true, List.mem_range, Function.comp] <;> constructor <;> rintro ⟨k, hk, h⟩ <;> refine ⟨k, hk, ?_⟩
  all_goals simp at h ⊢
  all_goals omega
theorem signs_nil {cs ds : List Int} {n : Nat} (h1 : cs.length = n) (h2 : ds.length = n) : signsOf cs ds n = [] ↔ cs = ds := by
  unfold signsOf
  rw [List.map_eq_nil_iff, List.filter_eq_nil_iff]
  constructor
  · intro h
    refine getD_ext h1 h2 fun k hk => ?_
    have := h k (List.mem_range.mpr hk)
    simp at this
    exact this
  · intro h k hk
    rw [h]
    simp
theorem signs_snoc {cs ds : List Int} {n : Nat} : signsOf cs ds (n + 1) = if cs.getD n 0 ≠ ds.getD n 0 then signsOf cs ds n ++ [decide (cs.getD n 0 < ds.getD n 0)] else signsOf cs ds n := by
  unfold signsOf
  rw [List.range_succ, List.filter_append, List.map_append]
  by_cases h : cs.getD n 0 ≠ ds.getD n 0
  · rw [if_pos h, List.filter_cons, if_pos (decide_eq_true h)]
    rfl
  · rw [if_neg h, List.filter_cons, if_neg (by rw [decide_eq_true_eq]; exact h)]
    simp
end WK
namespace K07
open PySem PySem.Spec PyProof.Rows L2 WK
local macro_rules | `(tactic| walk_at "vc") => `(tactic| try simp only [tSeq, tAsg, tPar, tPar3, tIfS, tIf, tTest, tB, tOp, tUn, rU, rI0, rI, rEq, rNe, tVar, tC, tCB, tCons, tNil, tCal, gName, gSub, gTup, gCons, gNil, tRet, tRetN, tDrop, tLst, tTup, tNext, tBits, tChain, tAnd, tOr, tNot, tAndV, tOrV, tNotV, tSl, tPart, tNoPart, tBM, tBM0, tAug, tEx, tNever, rSetL, for_eq, lc_eq, yes_eq, scal_ii, scal_bb, scal_ss, scal_nn, scal_in, scal_ni, scal_sn, scal_ns, scal_bn, scal_nb, scal_is, scal_si, iRng1, iRng2, iList, iTup, wipe,
  L2.start, isi_int, isi_str, isi_bl, isi_non, kit_ii, kit_ss, kit_bb, kit_ib, kit_is, kit_it, kit_il, kit_si, kit_sb, kit_st, kit_sl, kit_bi, kit_bs, kit_bt, kit_ni, kit_ns, kit_nt, kit_tt, kit_tl, kit_ti, kit_ts, kit_ll, kit_lt, kit_li, kit_ls, cxK, cxnK, iZipT, iZipL, iEnum, iEnumT, tDisp, tPairs, tDGet, tLstRg, tTupRg, tRg1, tRg2, rSumT, rLenU, RZ.iZipA, tMk, tPrp, iStr, rMulS, rJn, rTupU, rListU, rIxS, rSlS, rAppend, tyv_s, tFld, sFld, rRep, rCat, rIxL, rIxT, rIntI, rIntB, rIsi, LenV, List.map_cons, List.map_nil, List.cons_append, List.nil_append, List.length_cons, List.length_nil, List.replicate, List.getElem?_cons_zero, List.getElem?_cons_succ, Option.some.injEq, exists_eq_left', V.int.injEq, V.str.injEq, List.cons.injEq, V.ref.injEq, V.bl.injEq,
  exists_and_left, exists_eq_left, exists_eq, and_true, true_and, and_assoc, List.set_cons_zero, List.set_cons_succ, Nat.reduceAdd, Nat.reduceSub, if_true, if_false, Bool.false_eq_true, reduceIte, Bool.not_true, Bool.not_false, decide_true, decide_false, reduceCtorEq, false_and, and_false, or_false, false_or, exists_false])
/-! ## the text, by places -/
def top (i : Nat) : Stmt := PySem.Challenge.pw_wovenkeys_k07_parting_and_precedence.main.body.getD i (.Pass ⟨0, 0, 0, 0⟩)
abbrev s_is_int : Stmt := top 11
abbrev N_is_int : List Str := ["value"]
theorem sc_is_int : FnScope N_is_int ["value"] (defScope s_is_int) := ⟨rfl, rfl, rfl, by decide +kernel, rfl, by decide +kernel, by decide +kernel⟩
abbrev s_in_range : Stmt := top 12
abbrev N_in_range : List Str := ["value", "low", "high"]
theorem sc_in_range : FnScope N_in_range ["value", "low", "high"] (defScope s_in_range) := ⟨rfl, rfl, rfl, by decide +kernel, rfl, by decide +kernel, by decide +kernel⟩
abbrev s_is_shape : Stmt := top 13
abbrev N_is_shape : List Str := ["value", "bits"]
theorem sc_is_shape : FnScope N_is_shape ["value"] (defScope s_is_shape) := ⟨rfl, rfl, rfl, by decide +kernel, rfl, by decide +kernel, by decide +kernel⟩
abbrev s_require_shape : Stmt := top 14
abbrev N_require_shape : List Str := ["value"]
theorem sc_require_shape : FnScope N_require_shape ["value"] (defScope s_require_shape) := ⟨rfl, rfl, rfl, by decide +kernel, rfl, by decide +kernel, by decide +kernel⟩
abbrev s_is_cell : Stmt := top 15
abbrev N_is_cell : List Str := ["shape", "value", "bits", "number"]
theorem sc_is_cell : FnScope N_is_cell ["shape", "value"] (defScope s_is_cell) := ⟨rfl, rfl, rfl, by decide +kernel, rfl, by decide +kernel, by decide +kernel⟩
abbrev s_require_cell : Stmt := top 16
abbrev N_require_cell : List Str := ["shape", "value"]
theorem sc_require_cell : FnScope N_require_cell ["shape", "value"] (defScope s_require_cell) := ⟨rfl, rfl, rfl, by decide +kernel, rfl, by decide +kernel, by decide +kernel⟩
abbrev s_read_times : Stmt := top 21
abbrev N_read_times : List Str := ["text", "at", "end"]
theorem sc_read_times : FnScope N_read_times ["text", "at"] (defScope s_read_times) := ⟨rfl, rfl, rfl, by decide +kernel, rfl, by decide +kernel, by decide +kernel⟩
abbrev s_read_parts : Stmt := top 22
abbrev N_read_parts : List Str := ["text", "at", "depth", "found", "content", "end", "times"]
theorem sc_read_parts : FnScope N_read_parts ["text", "at", "depth"] (defScope s_read_parts) := ⟨rfl, rfl, rfl, by decide +kernel, rfl, by decide +kernel, by decide +kernel⟩
abbrev s_count_letter : Stmt := top 23
abbrev N_count_letter : List Str := ["parts", "letter", "found", "content", "times"]
theorem sc_count_letter : FnScope N_count_letter ["parts", "letter"] (defScope s_count_letter) := ⟨rfl, rfl, rfl, by decide +kernel, rfl, by decide +kernel, by decide +kernel⟩
abbrev s_written : Stmt := top 24
abbrev N_written : List Str := ["parts", "content", "times"]
theorem sc_written : FnScope N_written ["parts"] (defScope s_written) := ⟨rfl, rfl, rfl, by decide +kernel, rfl, by decide +kernel, by decide +kernel⟩
abbrev s_read_weave : Stmt := top 25
abbrev N_read_weave : List Str := ["text", "parts", "at", "counts", "letter"]
theorem sc_read_weave : FnScope N_read_weave ["text"] (defScope s_read_weave) := ⟨rfl, rfl, rfl, by decide +kernel, rfl, by decide +kernel, by decide +kernel⟩
abbrev s_Weave___init__ : Stmt := inClass (top 27) 0
abbrev N_Weave___init__ : List Str := ["self", "text", "letter"]
theorem sc_Weave___init__ : FnScope N_Weave___init__ ["self", "text"] (defScope s_Weave___init__) := ⟨rfl, rfl, rfl, by decide +kernel, rfl, by decide +kernel, by decide +kernel⟩
abbrev s_Weave_letters : Stmt := inClass (top 27) 1
abbrev N_Weave_letters : List Str := ["self"]
theorem sc_Weave_letters : FnScope N_Weave_letters ["self"] (defScope s_Weave_letters) := ⟨rfl, rfl, rfl, by decide +kernel, rfl, by decide +kernel, by decide +kernel⟩
abbrev s_Weave_shape : Stmt := inClass (top 27) 3
abbrev N_Weave_shape : List Str := ["self"]
theorem sc_Weave_shape : FnScope N_Weave_shape ["self"] (defScope s_Weave_shape) := ⟨rfl, rfl, rfl, by decide +kernel, rfl, by decide +kernel, by decide +kernel⟩
abbrev s_require_weave : Stmt := top 28
abbrev N_require_weave : List Str := ["value"]
theorem sc_require_weave : FnScope N_require_weave ["value"] (defScope s_require_weave) := ⟨rfl, rfl, rfl, by decide +kernel, rfl, by decide +kernel, by decide +kernel⟩
abbrev s_path_of : Stmt := top 30
abbrev N_path_of : List Str := ["letters", "shape", "level", "found", "letter", "axis"]
theorem sc_path_of : FnScope N_path_of ["letters", "shape"] (defScope s_path_of) := ⟨rfl, rfl, rfl, by decide +kernel, rfl, by decide +kernel, by decide +kernel⟩
abbrev s_key_number : Stmt := top 31
abbrev N_key_number : List Str := ["letters", "shape", "cell", "key", "axis", "level"]
theorem sc_key_number : FnScope N_key_number ["letters", "shape", "cell"] (defScope s_key_number) := ⟨rfl, rfl, rfl, by decide +kernel, rfl, by decide +kernel, by decide +kernel⟩
abbrev s_parting : Stmt := top 32
abbrev N_parting : List Str := ["weave", "one", "other", "apart"]
theorem sc_parting : FnScope N_parting ["weave", "one", "other"] (defScope s_parting) := ⟨rfl, rfl, rfl, by decide +kernel, rfl, by decide +kernel, by decide +kernel⟩
abbrev s_precedence : Stmt := top 33
abbrev N_precedence : List Str := ["shape", "one", "other", "is_less", "is_greater", "number", "later"]
theorem sc_precedence : FnScope N_precedence ["shape", "one", "other"] (defScope s_precedence) := ⟨rfl, rfl, rfl, by decide +kernel, rfl, by decide +kernel, by decide +kernel⟩
abbrev s__law_brook : Stmt := top 35
abbrev N__law_brook : List Str := ["_law_script", "_law_k", "_law_cell_here"]
theorem sc__law_brook : FnScope N__law_brook ["_law_script", "_law_k"] (defScope s__law_brook) := ⟨rfl, rfl, rfl, by decide +kernel, rfl, by decide +kernel, by decide +kernel⟩
abbrev s__law_dip : Stmt := top 36
abbrev N__law_dip : List Str := ["_law_brook_here", "_law_many", "_law_found", "_law_turn", "_law_mixed"]
theorem sc__law_dip : FnScope N__law_dip ["_law_brook_here", "_law_many"] (defScope s__law_dip) := ⟨rfl, rfl, rfl, by decide +kernel, rfl, by decide +kernel, by decide +kernel⟩
abbrev s__law_shape : Stmt := top 37
abbrev N__law_shape : List Str := ["_law_brook_here", "_law_most", "_law_axes_here", "_law_found", "_law_turn", "_law_room"]
theorem sc__law_shape : FnScope N__law_shape ["_law_brook_here", "_law_most"] (defScope s__law_shape) := ⟨rfl, rfl, rfl, by decide +kernel, rfl, by decide +kernel, by decide +kernel⟩
abbrev s__law_letters : Stmt := top 38
abbrev N__law_letters : List Str := ["_law_brook_here", "_law_shape_here", "_law_left", "_law_found", "_law_way", "_law_axis", "_law_turn"]
theorem sc__law_letters : FnScope N__law_letters ["_law_brook_here", "_law_shape_here"] (defScope s__law_letters) := ⟨rfl, rfl, rfl, by decide +kernel, rfl, by decide +kernel, by decide +kernel⟩
abbrev s__law_cell : Stmt := top 39
abbrev N__law_cell : List Str := ["_law_brook_here", "_law_shape_here", "_law_found", "_law_bits", "_law_top", "_law_some"]
theorem sc__law_cell : FnScope N__law_cell ["_law_brook_here", "_law_shape_here"] (defScope s__law_cell) := ⟨rfl, rfl, rfl, by decide +kernel, rfl, by decide +kernel, by decide +kernel⟩
abbrev s__law_key : Stmt := top 40
abbrev N__law_key : List Str := ["_law_letters_here", "_law_shape_here", "_law_cell_here", "_law_left", "_law_key_here", "_law_letter", "_law_axis"]
theorem sc__law_key : FnScope N__law_key ["_law_letters_here", "_law_shape_here", "_law_cell_here"] (defScope s__law_key) := ⟨rfl, rfl, rfl, by decide +kernel, rfl, by decide +kernel, by decide +kernel⟩
abbrev s__law_same : Stmt := top 41
abbrev N__law_same : List Str := ["_law_actual", "_law_expected"]
theorem sc__law_same : FnScope N__law_same ["_law_actual", "_law_expected"] (defScope s__law_same) := ⟨rfl, rfl, rfl, by decide +kernel, rfl, by decide +kernel, by decide +kernel⟩
abbrev s__law_weaves : Stmt := top 42
abbrev N__law_weaves : List Str := ["_law_shape_here", "_law_found", "_law_axis", "_law_bits", "_law_rest", "_law_letters_here"]
theorem sc__law_weaves : FnScope N__law_weaves ["_law_shape_here"] (defScope s__law_weaves) := ⟨rfl, rfl, rfl, by decide +kernel, rfl, by decide +kernel, by decide +kernel⟩
abbrev s__law_beside : Stmt := top 43
abbrev N__law_beside : List Str := ["_law_brook_here", "_law_shape_here", "_law_cell_here", "_law_found", "_law_turn", "_law_axis", "_law_top", "_law_step", "_law_turned", "_law_moved"]
theorem sc__law_beside : FnScope N__law_beside ["_law_brook_here", "_law_shape_here", "_law_cell_here"] (defScope s__law_beside) := ⟨rfl, rfl, rfl, by decide +kernel, rfl, by decide +kernel, by decide +kernel⟩
abbrev s__law_pair : Stmt := top 44
abbrev N__law_pair : List Str := ["_law_brook_here", "_law_shape_here", "_law_one", "_law_axis", "_law_way", "_law_other", "_law_number", "_law_later"]
theorem sc__law_pair : FnScope N__law_pair ["_law_brook_here", "_law_shape_here"] (defScope s__law_pair) := ⟨rfl, rfl, rfl, by decide +kernel, rfl, by decide +kernel, by decide +kernel⟩
abbrev s__law_right : Stmt := top 45
abbrev N__law_right : List Str := ["_law_brook_here", "_law_shape_here", "_law_letters_here", "_law_one", "_law_other", "_law_keys_here", "_law_due", "_law_many", "_law_step", "_law_weave", "_law_turned", "_law_told", "_law_ahead", "_law_some", "_law_signs", "_law_cell_here", "_law_number", "_law_later"]
theorem sc__law_right : FnScope N__law_right ["_law_brook_here", "_law_shape_here"] (defScope s__law_right) := ⟨rfl, rfl, rfl, by decide +kernel, rfl, by decide +kernel, by decide +kernel⟩
abbrev s_law : Stmt := top 46
abbrev N_law : List Str := ["_law_script", "_law_k", "_law_brook_here", "_law_turn", "_law_told"]
theorem sc_law : FnScope N_law ["_law_script"] (defScope s_law) := ⟨rfl, rfl, rfl, by decide +kernel, rfl, by decide +kernel, by decide +kernel⟩
/-- what the top has written -/
structure Txt (K : PySem.W.Frag) (mg : Str → Option Value) : Prop where
  n_all : mg "all" = none
  n_any : mg "any" = none
  n_bool : mg "bool" = none
  n_enumerate : mg "enumerate" = none
  n_int : mg "int" = none
  n_isinstance : mg "isinstance" = none
  n_len : mg "len" = none
  n_list : mg "list" = none
  n_max : mg "max" = none
  n_min : mg "min" = none
  n_range : mg "range" = none
  n_repr : mg "repr" = none
  n_str : mg "str" = none
  n_sum : mg "sum" = none
  n_tuple : mg "tuple" = none
  n_zip : mg "zip" = none
  c_AXES : ∃ t, mg "AXES" = some (.str "abcd" t)
  c_MOST_BITS : ∃ t, mg "MOST_BITS" = some (.int 120 t)
  c_MOST_LETTERS : ∃ t, mg "MOST_LETTERS" = some (.int 240 t)
  c_DIGITS : ∃ t, mg "DIGITS" = some (.str "0123456789" t)
  c_MOST_OPEN : ∃ t, mg "MOST_OPEN" = some (.int 8 t)
  c_MOST_TIMES : ∃ t, mg "MOST_TIMES" = some (.int 240 t)
  g_Weave : mg "Weave" = some (.ref (He.ga K "Weave"))
  k_Weave : Cls K (He.ga K "Weave")
  m_Weave : Mk K (He.ga K "Weave") (He.ma K (He.ga K "Weave") "__init__")
  i_Weave : IsC K (He.ga K "Weave")
  a_Weave_own_letters : NoAttr K (He.ga K "Weave") "own_letters"
  a_Weave_own_shape : NoAttr K (He.ga K "Weave") "own_shape"
  f_is_int : ∃ fd, FunD K "is_int" "is_int" (defArgs s_is_int) (defBody s_is_int) (defScope s_is_int) [] [] (He.ga K "is_int") fd
  g_is_int : mg "is_int" = some (.ref (He.ga K "is_int"))
  f_in_range : ∃ fd, FunD K "in_range" "in_range" (defArgs s_in_range) (defBody s_in_range) (defScope s_in_range) [] [] (He.ga K "in_range") fd
  g_in_range : mg "in_range" = some (.ref (He.ga K "in_range"))
  f_is_shape : ∃ fd, FunD K "is_shape" "is_shape" (defArgs s_is_shape) (defBody s_is_shape) (defScope s_is_shape) [] [] (He.ga K "is_shape") fd
  g_is_shape : mg "is_shape" = some (.ref (He.ga K "is_shape"))
  f_require_shape : ∃ fd, FunD K "require_shape" "require_shape" (defArgs s_require_shape) (defBody s_require_shape) (defScope s_require_shape) [] [] (He.ga K "require_shape") fd
  g_require_shape : mg "require_shape" = some (.ref (He.ga K "require_shape"))
  f_is_cell : ∃ fd, FunD K "is_cell" "is_cell" (defArgs s_is_cell) (defBody s_is_cell) (defScope s_is_cell) [] [] (He.ga K "is_cell") fd
  g_is_cell : mg "is_cell" = some (.ref (He.ga K "is_cell"))
  f_require_cell : ∃ fd, FunD K "require_cell" "require_cell" (defArgs s_require_cell) (defBody s_require_cell) (defScope s_require_cell) [] [] (He.ga K "require_cell") fd
  g_require_cell : mg "require_cell" = some (.ref (He.ga K "require_cell"))
  f_read_times : ∃ fd, FunD K "read_times" "read_times" (defArgs s_read_times) (defBody s_read_times) (defScope s_read_times) [] [] (He.ga K "read_times") fd
  g_read_times : mg "read_times" = some (.ref (He.ga K "read_times"))
  f_read_parts : ∃ fd, FunD K "read_parts" "read_parts" (defArgs s_read_parts) (defBody s_read_parts) (defScope s_read_parts) [] [] (He.ga K "read_parts") fd
  g_read_parts : mg "read_parts" = some (.ref (He.ga K "read_parts"))
  f_count_letter : ∃ fd, FunD K "count_letter" "count_letter" (defArgs s_count_letter) (defBody s_count_letter) (defScope s_count_letter) [] [] (He.ga K "count_letter") fd
  g_count_letter : mg "count_letter" = some (.ref (He.ga K "count_letter"))
  f_written : ∃ fd, FunD K "written" "written" (defArgs s_written) (defBody s_written) (defScope s_written) [] [] (He.ga K "written") fd
  g_written : mg "written" = some (.ref (He.ga K "written"))
  f_read_weave : ∃ fd, FunD K "read_weave" "read_weave" (defArgs s_read_weave) (defBody s_read_weave) (defScope s_read_weave) [] [] (He.ga K "read_weave") fd
  g_read_weave : mg "read_weave" = some (.ref (He.ga K "read_weave"))
  f_Weave___init__ : ∃ fd, FunD K "__init__" "Weave.__init__" (defArgs s_Weave___init__) (defBody s_Weave___init__) (defScope s_Weave___init__) [] [] (He.ma K (He.ga K "Weave") "__init__") fd
  f_Weave_letters : ∃ fd, FunD K "letters" "Weave.letters" (defArgs s_Weave_letters) (defBody s_Weave_letters) (defScope s_Weave_letters) [] [] (gpa K (He.ga K "Weave") "letters") fd
  p_Weave_letters : PropOf K (He.ga K "Weave") "letters" (He.ma K (He.ga K "Weave") "letters") (gpa K (He.ga K "Weave") "letters")
  f_Weave_shape : ∃ fd, FunD K "shape" "Weave.shape" (defArgs s_Weave_shape) (defBody s_Weave_shape) (defScope s_Weave_shape) [] [] (gpa K (He.ga K "Weave") "shape") fd
  p_Weave_shape : PropOf K (He.ga K "Weave") "shape" (He.ma K (He.ga K "Weave") "shape") (gpa K (He.ga K "Weave") "shape")
  f_require_weave : ∃ fd, FunD K "require_weave" "require_weave" (defArgs s_require_weave) (defBody s_require_weave) (defScope s_require_weave) [] [] (He.ga K "require_weave") fd
  g_require_weave : mg "require_weave" = some (.ref (He.ga K "require_weave"))
  f_path_of : ∃ fd, FunD K "path_of" "path_of" (defArgs s_path_of) (defBody s_path_of) (defScope s_path_of) [] [] (He.ga K "path_of") fd
  g_path_of : mg "path_of" = some (.ref (He.ga K "path_of"))
  f_key_number : ∃ fd, FunD K "key_number" "key_number" (defArgs s_key_number) (defBody s_key_number) (defScope s_key_number) [] [] (He.ga K "key_number") fd
  g_key_number : mg "key_number" = some (.ref (He.ga K "key_number"))
  f_parting : ∃ fd, FunD K "parting" "parting" (defArgs s_parting) (defBody s_parting) (defScope s_parting) [] [] (He.ga K "parting") fd
  g_parting : mg "parting" = some (.ref (He.ga K "parting"))
  f_precedence : ∃ fd, FunD K "precedence" "precedence" (defArgs s_precedence) (defBody s_precedence) (defScope s_precedence) [] [] (He.ga K "precedence") fd
  g_precedence : mg "precedence" = some (.ref (He.ga K "precedence"))
  f__law_brook : ∃ fd, FunD K "_law_brook" "_law_brook" (defArgs s__law_brook) (defBody s__law_brook) (defScope s__law_brook) [] [] (He.ga K "_law_brook") fd
  g__law_brook : mg "_law_brook" = some (.ref (He.ga K "_law_brook"))
  f__law_dip : ∃ fd, FunD K "_law_dip" "_law_dip" (defArgs s__law_dip) (defBody s__law_dip) (defScope s__law_dip) [] [] (He.ga K "_law_dip") fd
  g__law_dip : mg "_law_dip" = some (.ref (He.ga K "_law_dip"))
  f__law_shape : ∃ fd, FunD K "_law_shape" "_law_shape" (defArgs s__law_shape) (defBody s__law_shape) (defScope s__law_shape) [] [] (He.ga K "_law_shape") fd
  g__law_shape : mg "_law_shape" = some (.ref (He.ga K "_law_shape"))
  f__law_letters : ∃ fd, FunD K "_law_letters" "_law_letters" (defArgs s__law_letters) (defBody s__law_letters) (defScope s__law_letters) [] [] (He.ga K "_law_letters") fd
  g__law_letters : mg "_law_letters" = some (.ref (He.ga K "_law_letters"))
  f__law_cell : ∃ fd, FunD K "_law_cell" "_law_cell" (defArgs s__law_cell) (defBody s__law_cell) (defScope s__law_cell) [] [] (He.ga K "_law_cell") fd
  g__law_cell : mg "_law_cell" = some (.ref (He.ga K "_law_cell"))
  f__law_key : ∃ fd, FunD K "_law_key" "_law_key" (defArgs s__law_key) (defBody s__law_key) (defScope s__law_key) [] [] (He.ga K "_law_key") fd
  g__law_key : mg "_law_key" = some (.ref (He.ga K "_law_key"))
  f__law_same : ∃ fd, FunD K "_law_same" "_law_same" (defArgs s__law_same) (defBody s__law_same) (defScope s__law_same) [] [] (He.ga K "_law_same") fd
  g__law_same : mg "_law_same" = some (.ref (He.ga K "_law_same"))
  f__law_weaves : ∃ fd, FunD K "_law_weaves" "_law_weaves" (defArgs s__law_weaves) (defBody s__law_weaves) (defScope s__law_weaves) [] [] (He.ga K "_law_weaves") fd
  g__law_weaves : mg "_law_weaves" = some (.ref (He.ga K "_law_weaves"))
  f__law_beside : ∃ fd, FunD K "_law_beside" "_law_beside" (defArgs s__law_beside) (defBody s__law_beside) (defScope s__law_beside) [] [] (He.ga K "_law_beside") fd
  g__law_beside : mg "_law_beside" = some (.ref (He.ga K "_law_beside"))
  f__law_pair : ∃ fd, FunD K "_law_pair" "_law_pair" (defArgs s__law_pair) (defBody s__law_pair) (defScope s__law_pair) [] [] (He.ga K "_law_pair") fd
  g__law_pair : mg "_law_pair" = some (.ref (He.ga K "_law_pair"))
  f__law_right : ∃ fd, FunD K "_law_right" "_law_right" (defArgs s__law_right) (defBody s__law_right) (defScope s__law_right) [] [] (He.ga K "_law_right") fd
  g__law_right : mg "_law_right" = some (.ref (He.ga K "_law_right"))
  f_law : ∃ fd, FunD K "law" "law" (defArgs s_law) (defBody s_law) (defScope s_law) [] [] (He.ga K "law") fd
  g_law : mg "law" = some (.ref (He.ga K "law"))
section
variable {P : Program} {w : World} {K : PySem.W.Frag} {mg : Str → Option Value} {base : Heap}
/-! ### the brook: a list of three ints, drawn from -/
def sp__law_brook (K : PySem.W.Frag) : Sp := fun vs H Q _ => ∃ (s : Addr) (ns : List Int) (k : Int), vs = [.ref s, .int k] ∧ SqL K H s (ns.map V.int) ∧ ns.length ≤ 63 ∧ 0 ≤ k ∧ k ≤ 100 ∧ ∀ p o, H p = none → Br3 o 0 → Q (.ref p) (upd H p o)
theorem O__law_brook (T : Txt K mg) : Ok P w K mg base CX0 1 "_law_brook" ["_law_script", "_law_k"] (sp__law_brook K) :=
  Ok.mk0 T.f__law_brook T.g__law_brook sc__law_brook (by rintro vs H Q E ⟨s, ns, k, rfl, _⟩; rfl) (fun _ _ _ _ _ _ us hl => match us, hl with | [_, _], _ => rfl) (fun f cdv A outer s H vs Q E hr h => by
    obtain ⟨a, ns, k, rfl, hS, hl, k0, k1, q⟩ := h
    refine ⟨_, (pss_cons (ps_set (i := 2) sc__law_brook.nd rfl (.inl rfl) pe_int)
    (pss_cons (ps_if (pt_cmpR op_lt (pv 1) (pe_callB (lenU K) (by rfl) T.n_len (by decide +kernel) (pa_cons (pv 0) pa_nil)) (nomark _)) (pss_one (ps_set (i := 2) sc__law_brook.nd rfl (.inl rfl) (pe_ix (ixL K) (pv 0) (pv 1) (fun _ _ => rfl)))) pss_nil)
    (pss_one (ps_ret (pe_lst (pa_cons (pe_callB max2 (by rfl) T.n_max (by decide +kernel) (pa_cons pe_int (pa_cons (pe_op op_sub (pv 2) (pe_cpow (v := 1000000000000000000) (by decide +kernel))) pa_nil))) (pa_cons (pe_op op_add (pe_op op_add (pe_op op_mulX (pe_op op_mod (pe_callTy intI (by rfl) T.n_int (by decide +kernel) (pa_cons (pv 2) pa_nil)) (pe_op op_add (pe_cpow (v := 1000000000000000000000000000000000000000) (by decide +kernel)) pe_int)) pe_int) (pe_op op_mulX pe_int (pv 1))) pe_int) (pa_cons pe_int pa_nil)))))))), ?_⟩
    have key : ∀ c : Int, ∀ p, H p = none → Q (.ref p) (upd H p (.lst [.int (if c - 1000000000000000000 > 0 then c - 1000000000000000000 else 0), .int (c % (1000000000000000000000000000000000000000 + 37) * 149 + 70207 * k + 37), .int 0])) := fun c p np => by
      refine q p _ np ⟨_, _, _, rfl, by split <;> omega, ?_, ?_, by omega, by omega⟩
      · have := Int.emod_nonneg c (show (1000000000000000000000000000000000000000 + 37 : Int) ≠ 0 by decide)
        omega
      · have h1 := Int.emod_lt_of_pos c (show (0 : Int) < 1000000000000000000000000000000000000000 + 37 by decide)
        have h2 : (2 : Int) ^ 160 = 1461501637330902918203684832716283019655932542976 := by decide +kernel
        rw [h2]
        omega
    walk_at "vc"
    have c1 : ∀ c : Int, CMulX (c % (1000000000000000000000000000000000000000 + 37)) 149 := fun c =>
      mulx_of (a := 130) (b := 8) (Int.emod_nonneg c (by decide)) (Int.lt_trans (Int.emod_lt_of_pos c (by decide)) (by decide +kernel)) (by decide) (by decide) (by decide)
    have c2 : CMulX 70207 k := mulx_of (a := 20) (b := 8) (by decide) (by decide) k0 (by have : (2 : Int) ^ 8 = 256 := by decide
                                                                                         omega) (by decide)
    refine ⟨_, .inl ⟨_, hS, rfl⟩, if_d (fun e => ?_) (fun e => ?_)⟩
    · rw [List.length_map] at e
      have hk : k.toNat < ns.length := by omega
      have g : (ns.map V.int)[k.toNat]? = some (.int ns[k.toNat]) := by
        rw [List.getElem?_map, List.getElem?_eq_getElem hk]
        rfl
      exact ⟨_, hS, _, at_of (by omega) g, _, rfl, _, rfl, by decide, c1 _, c2, le_size (by decide), fun p np => key _ p np⟩
    · exact ⟨by decide, c1 _, c2, le_size (by decide), fun p np => key _ p np⟩)
/-- a draw: below m, from a brook that goes on -/
def sp1__law_dip : Sp := fun vs H Q _ => ∃ (a : Addr) (m : Int) (n : Nat), vs = [.ref a, .int m] ∧ Br a n H ∧ n ≤ 2 ^ 60 ∧ 1 ≤ m ∧ m ≤ 1000000000000000000000000000000 ∧ ∀ r o, 0 ≤ r → r < m → Br3 o (n + 1) → Q (.int r) (upd H a o)
theorem O1__law_dip (T : Txt K mg) : Ok P w K mg base CX0 1 "_law_dip" ["_law_brook_here", "_law_many"] sp1__law_dip :=
  Ok.mk0 T.f__law_dip T.g__law_dip sc__law_dip (by rintro vs H Q E ⟨s, ns, k, rfl, _⟩; rfl) (fun _ _ _ _ _ _ us hl => match us, hl with | [_, _], _ => rfl) (fun f cdv A outer s H vs Q E hr h => by
    obtain ⟨a, m, n, rfl, ⟨o, ha, x, y, z, rfl, x0, y0, y1, z0, z1⟩, hn, m0, m1, q⟩ := h
    refine ⟨_, (pss_cons (ps_if (pt_cmpR op_gt (pv 1) (pe_cpow (v := 1000000000000000000000000000000) (by decide +kernel)) (nomark _)) pss_never pss_nil)
    (pss_cons (ps_if (pt_cmpR op_gt (pe_ix (ixL K) (pv 0) pe_int (fun _ _ => rfl)) pe_int (nomark _)) (pss_cons (ps_set (i := 2) sc__law_dip.nd rfl (.inl rfl) (pe_op op_mod (pe_callTy intI (by rfl) T.n_int (by decide +kernel) (pa_cons (pe_ix (ixL K) (pv 0) pe_int (fun _ _ => rfl)) pa_nil)) (pv 1)))
    (pss_cons (ps_asg (pe_op op_fdivW (pe_ix (ixL K) (pv 0) pe_int (fun _ _ => rfl)) (pv 1)) (pg_sub (pv 0) pe_int set_list))
    (pss_one (ps_ret (pv 2))))) pss_nil)
    (pss_cons (ps_asg (pe_op op_add (pe_ix (ixL K) (pv 0) pe_int (fun _ _ => rfl)) pe_int) (pg_sub (pv 0) pe_int set_list))
    (pss_cons (ps_set (i := 4) sc__law_dip.nd rfl (.inl rfl) (pe_op op_mod (pe_callTy intI (by rfl) T.n_int (by decide +kernel) (pa_cons (pe_op op_powW (pe_op op_add (pe_ix (ixL K) (pv 0) pe_int (fun _ _ => rfl)) (pe_op op_mulX pe_int (pe_ix (ixL K) (pv 0) pe_int (fun _ _ => rfl)))) pe_int) pa_nil)) (pe_op op_add (pe_cpow (v := 100000000000000000000000000000000000000000000) (by decide +kernel)) pe_int)))
    (pss_cons (ps_set (i := 4) sc__law_dip.nd rfl (.inl rfl) (pe_op op_mod (pe_callTy intI (by rfl) T.n_int (by decide +kernel) (pa_cons (pe_op op_powW (pe_op op_add (pv 4) (pe_op op_mulX pe_int (pe_ix (ixL K) (pv 0) pe_int (fun _ _ => rfl)))) pe_int) pa_nil)) (pe_op op_add (pe_cpow (v := 1000000000000000000000000000000000000000000) (by decide +kernel)) pe_int)))
    (pss_one (ps_ret (pe_op op_mod (pe_callTy intI (by rfl) T.n_int (by decide +kernel) (pa_cons (pe_op op_fdivW (pv 4) pe_int) pa_nil)) (pv 1))))))))), ?_⟩
    walk_at "vc"
    refine if_d (fun e => absurd e (by omega)) (fun _ => ?_)
    refine ⟨_, sqL_of ha, _, rfl, _, rfl, if_d (fun e => ?_) (fun e => ?_)⟩
    · refine ⟨_, sqL_of ha, _, rfl, _, rfl, by omega, _, sqL_of ha, _, rfl, _, rfl, cdiv_of (k := 100) (by omega) (Int.lt_of_le_of_lt m1 (by decide +kernel)) (by decide), _, ha, _, rfl, ?_⟩
      exact q _ _ (Int.emod_nonneg _ (by omega)) (Int.emod_lt_of_pos _ (by omega)) ⟨_, _, _, rfl, Int.ediv_nonneg x0 (by omega), y0, y1, z0, by omega⟩
    · have zb : z + 1 < 2 ^ 61 := by
        have : (2 : Int) ^ 61 = 2305843009213693952 := by decide
        have : (2 : Nat) ^ 60 = 1152921504606846976 := by decide
        omega
      have p1 : 179424691 * (z + 1) < 2 ^ (28 + 61) := mul_lt_pow (by decide) (by decide) (by omega) zb
      have p2 : y + 179424691 * (z + 1) < 2 ^ 161 := by
        have : (2 : Int) ^ 161 = 2 * 2 ^ 160 := by decide
        have : (2 : Int) ^ (28 + 61) ≤ 2 ^ 160 := pow_le (by decide)
        omega
      have p3 : ∀ c : Int, 0 ≤ c % (100000000000000000000000000000000000000000000 + 97) ∧ c % (100000000000000000000000000000000000000000000 + 97) < 2 ^ 147 := fun c =>
        ⟨Int.emod_nonneg c (by decide), Int.lt_trans (Int.emod_lt_of_pos c (by decide)) (by decide +kernel)⟩
      have p4 : 122949829 * (z + 1) < 2 ^ (28 + 61) := mul_lt_pow (by decide) (by decide) (by omega) zb
      have p5 : ∀ c : Int, c % (100000000000000000000000000000000000000000000 + 97) + 122949829 * (z + 1) < 2 ^ 148 := fun c => by
        have h := (p3 c).2
        have : (2 : Int) ^ 148 = 2 * 2 ^ 147 := by decide
        have : (2 : Int) ^ (28 + 61) ≤ 2 ^ 147 := pow_le (by decide)
        omega
      refine ⟨_, sqL_of ha, _, rfl, _, rfl, _, ha, _, rfl, _, sqL_of upd_same, _, rfl, _, sqL_of upd_same, _, rfl, _, rfl, mulx_of (a := 28) (b := 61) (by decide) (by decide) (by omega) zb (by decide), _, rfl, powW_ok (n := 161) (k := 3) (nn_lt (by omega) p2) (by decide), by decide, ?_⟩
      refine ⟨_, sqL_of upd_same, _, rfl, _, rfl, mulx_of (a := 28) (b := 61) (by decide) (by decide) (by omega) zb (by decide), powW_ok (n := 148) (k := 3) (nn_lt (by have := (p3 ((y + 179424691 * (z + 1)) ^ (3 : Int).toNat)).1; omega) (p5 _)) (by decide), by decide, cdiv_of (k := 20) (by decide) (by decide) (by decide), by omega, ?_⟩
      exact q _ _ (Int.emod_nonneg _ (by omega)) (Int.emod_lt_of_pos _ (by omega)) ⟨_, _, _, rfl, x0, y0, y1, by omega, by omega⟩)
/-- a draw below any bound -/

def sp__law_dip : Sp := fun vs H Q _ => ∃ (a : Addr) (m : Int) (n : Nat), vs = [.ref a, .int m] ∧ Br a n H ∧ n ≤ 2 ^ 59 ∧ 1 ≤ m ∧ m < 2 ^ (1000 : Nat) ∧ ∀ r o, 0 ≤ r → r < m → Br3 o (n + 20) → Q (.int r) (upd H a o)
theorem O__law_dip (T : Txt K mg) : Ok P w K mg base CX0 2 "_law_dip" ["_law_brook_here", "_law_many"] sp__law_dip :=
  Ok.mk0 T.f__law_dip T.g__law_dip sc__law_dip (by rintro vs H Q E ⟨s, ns, k, rfl, _⟩; rfl) (fun _ _ _ _ _ _ us hl => match us, hl with | [_, _], _ => rfl) (fun f cdv A outer s H vs Q E hr h => by
    obtain ⟨a, m, n, rfl, ⟨o, ha, x, y, z, rfl, x0, y0, y1, z0, z1⟩, hn, m0, m1, q⟩ := h
    refine ⟨_, (pss_cons (ps_if (pt_cmpR op_gt (pv 1) (pe_cpow (v := 1000000000000000000000000000000) (by decide +kernel)) (nomark _)) (pss_cons (ps_set (i := 2) sc__law_dip.nd rfl (.inl rfl) pe_int)
    (pss_cons (ps_for PassesOwn.never rfl (pi_range1 (by rfl) T.n_range (pa_cons (pe_op op_add pe_int (pe_op op_fdivW (pe_bits (pv 1)) pe_int)) pa_nil)) (pg_name (i := 3) sc__law_dip.nd rfl (.inl rfl)) (pss_one (ps_set (i := 2) sc__law_dip.nd rfl (.inl rfl) (pe_op op_add (pe_op op_mulX (pv 2) (pe_cpow (v := 1000000000000000000000000000000) (by decide +kernel))) (cal (O1__law_dip T) hr (pa_cons (pv 0) (pa_cons (pe_cpow (v := 1000000000000000000000000000000) (by decide +kernel)) pa_nil)))))))
    (pss_one (ps_ret (pe_op op_mod (pe_callTy intI (by rfl) T.n_int (by decide +kernel) (pa_cons (pv 2) pa_nil)) (pv 1)))))) pss_nil)
    (pss_cons (ps_if (pt_cmpR op_gt (pe_ix (ixL K) (pv 0) pe_int (fun _ _ => rfl)) pe_int (nomark _)) (pss_cons (ps_set (i := 2) sc__law_dip.nd rfl (.inl rfl) (pe_op op_mod (pe_callTy intI (by rfl) T.n_int (by decide +kernel) (pa_cons (pe_ix (ixL K) (pv 0) pe_int (fun _ _ => rfl)) pa_nil)) (pv 1)))
    (pss_cons (ps_asg (pe_op op_fdivW (pe_ix (ixL K) (pv 0) pe_int (fun _ _ => rfl)) (pv 1)) (pg_sub (pv 0) pe_int set_list))
    (pss_one (ps_ret (pv 2))))) pss_nil)
    (pss_cons (ps_asg (pe_op op_add (pe_ix (ixL K) (pv 0) pe_int (fun _ _ => rfl)) pe_int) (pg_sub (pv 0) pe_int set_list))
    (pss_cons (ps_set (i := 4) sc__law_dip.nd rfl (.inl rfl) (pe_op op_mod (pe_callTy intI (by rfl) T.n_int (by decide +kernel) (pa_cons (pe_op op_powW (pe_op op_add (pe_ix (ixL K) (pv 0) pe_int (fun _ _ => rfl)) (pe_op op_mulX pe_int (pe_ix (ixL K) (pv 0) pe_int (fun _ _ => rfl)))) pe_int) pa_nil)) (pe_op op_add (pe_cpow (v := 100000000000000000000000000000000000000000000) (by decide +kernel)) pe_int)))
    (pss_cons (ps_set (i := 4) sc__law_dip.nd rfl (.inl rfl) (pe_op op_mod (pe_callTy intI (by rfl) T.n_int (by decide +kernel) (pa_cons (pe_op op_powW (pe_op op_add (pv 4) (pe_op op_mulX pe_int (pe_ix (ixL K) (pv 0) pe_int (fun _ _ => rfl)))) pe_int) pa_nil)) (pe_op op_add (pe_cpow (v := 1000000000000000000000000000000000000000000) (by decide +kernel)) pe_int)))
    (pss_one (ps_ret (pe_op op_mod (pe_callTy intI (by rfl) T.n_int (by decide +kernel) (pa_cons (pe_op op_fdivW (pv 4) pe_int) pa_nil)) (pv 1))))))))), ?_⟩
    walk_at "vc"
    have p60 : (2 : Nat) ^ 60 = 1152921504606846976 := by decide
    have p59 : (2 : Nat) ^ 59 = 576460752303423488 := by decide
    refine if_d (fun e => ?_) (fun e => ?_)
    · have hb : Builtin.Int.intBits m ≤ 1000 := PyProof.Rows.intBits_le (k := 1000) (nn_lt (by omega) m1)
      generalize Builtin.Int.intBits m = B at hb
      have eT : (1 + (B : Int) / 90).toNat = 1 + B / 90 := by omega
      refine ⟨cdiv_of (k := 10) (by decide) (by decide) (by decide), by omega, by omega, ?_⟩
      rw [eT]
      have hT : 1 + B / 90 ≤ 12 := by omega
      generalize 1 + B / 90 = T at hT
      refine loop_r0 (fun i σ' H' => ∃ (f : Int) (y3 : Option V) (o : HO), σ' = [some (.ref a), some (.int m), some (.int f), y3, none] ∧ 0 ≤ f ∧ f < 2 ^ (100 * i) ∧ H' = upd H a o ∧ Br3 o (n + i))
        ⟨0, none, .lst [.int x, .int y, .int z], rfl, by decide, by decide, ?_, x, y, z, rfl, x0, y0, y1, z0, by omega⟩ ?_ ?_
      · funext b
        by_cases hb2 : b = a
        · rw [hb2, upd_same, ha]
        · rw [upd_ne hb2]
      · rintro i σ' H' hi ⟨f, y3, o, rfl, f0, f1, rfl, hB⟩
        walk_at "vc"
        have f2 : f < 2 ^ 1200 := lt_pow f1 (by omega)
        refine ⟨mulx_of (a := 1200) (b := 100) f0 f2 (by decide) (by decide +kernel) (by decide), a, 1000000000000000000000000000000, n + i, rfl, ⟨o, upd_same, hB⟩, by omega, by decide, by decide, fun r o2 r0 r1 hB2 => ?_⟩
        refine ⟨_, rfl, by omega, ?_, o2, upd_upd, hB2⟩
        have e1 : (2 : Int) ^ (100 * (i + 1)) = 2 ^ (100 * i) * 2 ^ 100 := by rw [Nat.mul_add, Int.pow_add]
        have e2 : (2 : Int) ^ 100 = 1267650600228229401496703205376 := by decide +kernel
        rw [e1, e2]
        omega
      · rintro σ' H' ⟨f, y3, o, rfl, f0, f1, rfl, hB⟩
        walk_at "vc"
        exact ⟨by omega, q _ _ (Int.emod_nonneg _ (by omega)) (Int.emod_lt_of_pos _ (by omega)) (hB.mono (by omega))⟩
    · have m1 : m ≤ 1000000000000000000000000000000 := by omega
      have hn : n ≤ 2 ^ 60 := by omega
      have q1 : ∀ r o, 0 ≤ r → r < m → Br3 o (n + 1) → Q (.int r) (upd H a o) := fun r o r0 r1 hB => q r o r0 r1 (hB.mono (by omega))
      refine ⟨_, sqL_of ha, _, rfl, _, rfl, if_d (fun e => ?_) (fun e => ?_)⟩
      · refine ⟨_, sqL_of ha, _, rfl, _, rfl, by omega, _, sqL_of ha, _, rfl, _, rfl, cdiv_of (k := 100) (by omega) (Int.lt_of_le_of_lt m1 (by decide +kernel)) (by decide), _, ha, _, rfl, ?_⟩
        exact q1 _ _ (Int.emod_nonneg _ (by omega)) (Int.emod_lt_of_pos _ (by omega)) ⟨_, _, _, rfl, Int.ediv_nonneg x0 (by omega), y0, y1, z0, by omega⟩
      · have zb : z + 1 < 2 ^ 61 := by
          have : (2 : Int) ^ 61 = 2305843009213693952 := by decide
          have : (2 : Nat) ^ 60 = 1152921504606846976 := by decide
          omega
        have p1 : 179424691 * (z + 1) < 2 ^ (28 + 61) := mul_lt_pow (by decide) (by decide) (by omega) zb
        have p2 : y + 179424691 * (z + 1) < 2 ^ 161 := by
          have : (2 : Int) ^ 161 = 2 * 2 ^ 160 := by decide
          have : (2 : Int) ^ (28 + 61) ≤ 2 ^ 160 := pow_le (by decide)
          omega
        have p3 : ∀ c : Int, 0 ≤ c % (100000000000000000000000000000000000000000000 + 97) ∧ c % (100000000000000000000000000000000000000000000 + 97) < 2 ^ 147 := fun c =>
          ⟨Int.emod_nonneg c (by decide), Int.lt_trans (Int.emod_lt_of_pos c (by decide)) (by decide +kernel)⟩
        have p4 : 122949829 * (z + 1) < 2 ^ (28 + 61) := mul_lt_pow (by decide) (by decide) (by omega) zb
        have p5 : ∀ c : Int, c % (100000000000000000000000000000000000000000000 + 97) + 122949829 * (z + 1) < 2 ^ 148 := fun c => by
          have h := (p3 c).2
          have : (2 : Int) ^ 148 = 2 * 2 ^ 147 := by decide
          have : (2 : Int) ^ (28 + 61) ≤ 2 ^ 147 := pow_le (by decide)
          omega
        refine ⟨_, sqL_of ha, _, rfl, _, rfl, _, ha, _, rfl, _, sqL_of upd_same, _, rfl, _, sqL_of upd_same, _, rfl, _, rfl, mulx_of (a := 28) (b := 61) (by decide) (by decide) (by omega) zb (by decide), _, rfl, powW_ok (n := 161) (k := 3) (nn_lt (by omega) p2) (by decide), by decide, ?_⟩
        refine ⟨_, sqL_of upd_same, _, rfl, _, rfl, mulx_of (a := 28) (b := 61) (by decide) (by decide) (by omega) zb (by decide), powW_ok (n := 148) (k := 3) (nn_lt (by have := (p3 ((y + 179424691 * (z + 1)) ^ (3 : Int).toNat)).1; omega) (p5 _)) (by decide), by decide, cdiv_of (k := 20) (by decide) (by decide) (by decide), by omega, ?_⟩
        exact q1 _ _ (Int.emod_nonneg _ (by omega)) (Int.emod_lt_of_pos _ (by omega)) ⟨_, _, _, rfl, x0, y0, y1, by omega, by omega⟩)

theorem dip_do {a : Addr} {m : Int} {n : Nat} {H : Hp} {Q : VK} {E : XK} (hB : Br a n H) (hn : n ≤ 2 ^ 59) (m0 : 1 ≤ m) (m1 : m < 2 ^ (1000 : Nat)) (q : ∀ r o, 0 ≤ r → r < m → Br3 o (n + 20) → Q (.int r) (upd H a o)) : sp__law_dip [.ref a, .int m] H Q E :=
  ⟨a, m, n, rfl, hB, hn, m0, m1, q⟩

end
section
variable {P : Program} {w : World} {K : PySem.W.Frag} {mg : Str → Option Value} {base : Heap}
/-! ### texts of weaves: flat ones -/
def sp_read_times : Sp := fun vs H Q _ => ∃ (a ds c : List Nat) (t : Nat), vs = [.str (sg (a ++ ds ++ c)), .int (a.length : Int)] ∧ (a ++ ds ++ c).length ≤ 10000 ∧ DsOk t ds ∧ (∀ d, c[0]? = some d → ¬ IsDig d) ∧
  ∀ p, H p = none → Q (.ref p) (upd H p (.tup [.int (t : Int), .int ((a.length + ds.length : Nat) : Int)]))
theorem O_read_times (T : Txt K mg) : Ok P w K mg base CX0 1 "read_times" ["text", "at"] sp_read_times :=
  Ok.mk0 T.f_read_times T.g_read_times sc_read_times (by rintro vs H Q E ⟨_, _, _, _, rfl, _⟩; rfl) (fun _ _ _ _ _ _ us hl => match us, hl with | [_, _], _ => rfl) (fun f cdv A outer s H vs Q E hr h => by
    obtain ⟨a, ds, c, t, rfl, hl, hd, hc, q⟩ := h
    refine ⟨_, (pss_cons (ps_set (i := 2) sc_read_times.nd rfl (.inl rfl) (pv 1))
    (pss_cons (ps_while PassesOwn.never (PW.pt (pw_and (pt_cmpR op_lt (pv 2) (pe_callB (lenU K) (by rfl) T.n_len (by decide +kernel) (pa_cons (pv 0) pa_nil)) (nomark _)) (pw_and1 (pt_cmpR op_in_sign (pe_ix ix_str (pv 0) (pv 2) (fun _ _ => rfl)) (pe_gstr T.c_DIGITS) rfl)))) (pss_one (ps_set (i := 2) sc_read_times.nd rfl (.inl rfl) (pe_op op_add (pv 2) pe_int))))
    (pss_cons (ps_if (pt_cmpR op_eq (pv 2) (pv 1) (nomark _)) (pss_one (ps_ret (pe_tup (pa_cons pe_int (pa_cons (pv 1) pa_nil))))) pss_nil)
    (pss_cons (ps_if (PW.pt (pw_or (pt_cmpR op_eq (pe_ix ix_str (pv 0) (pv 1) (fun _ _ => rfl)) pe_str (nomark _)) (pw_or (pt_cmpR op_gt (pe_op op_sub (pv 2) (pv 1)) pe_int (nomark _)) (pw_or1 (pt_not (pt_chain op_le op_le pe_int (pe_callTy call_int_str (by rfl) T.n_int (by decide +kernel) (pa_cons (pe_slice sl_str (pv 0) (po_some (pv 1)) (po_some (pv 2))) pa_nil)) (pe_gint T.c_MOST_TIMES))))))) (pss_one ps_never) pss_nil)
    (pss_one (ps_ret (pe_tup (pa_cons (pe_callTy call_int_str (by rfl) T.n_int (by decide +kernel) (pa_cons (pe_slice sl_str (pv 0) (po_some (pv 1)) (po_some (pv 2))) pa_nil)) (pa_cons (pv 2) pa_nil))))))))), ?_⟩
    walk_at "vc"
    refine ⟨fun m σ' H' => ∃ j : Nat, j ≤ ds.length ∧ m = ds.length - j ∧ σ' = [some (.str (sg (a ++ ds ++ c))), some (.int (a.length : Int)), some (.int ((a.length + j : Nat) : Int))] ∧ H' = H, ⟨ds.length, 0, Nat.zero_le _, rfl, rfl, rfl⟩, ?_⟩
    rintro m σ' H' ⟨j, hj, rfl, rfl, rfl⟩
    walk_at "vc"
    have L : (a ++ ds ++ c).length = a.length + ds.length + c.length := by rw [List.length_append, List.length_append]
    have zl : (sg (a ++ ds ++ c)).length ≤ sizeLine := le_size (by rw [sg_len]; omega)
    refine ⟨zl, ?_⟩
    by_cases hje : j < ds.length
    · have g : (a ++ ds ++ c)[a.length + j]? = some ds[j] := by
        rw [List.append_assoc, List.getElem?_append_right (by omega), Nat.add_sub_cancel_left, List.getElem?_append_left hje, List.getElem?_eq_getElem hje]
      refine if_t (decide_eq_true (by rw [sg_len]; omega)) ⟨zl, _, at_nat rfl (by rw [sg_cps]; exact g), _, rfl, if_t (decide_eq_true ((dig_iff _).mpr (hd.dig _ (List.getElem_mem _)))) ⟨_, fun _ _ h => h, ds.length - (j + 1), by omega, j + 1, by omega, rfl, rfl, rfl⟩⟩
    · have ej : j = ds.length := by omega
      subst ej
      refine ite_t ?_ fun hc1 tl => ?_
      · refine if_d (fun e => ?_) (fun e => ?_)
        · have e0 : ds = [] := List.length_eq_zero_iff.mp (by omega)
          have e1 := hd.one e0
          subst e0 e1
          exact ⟨le_size (by decide), fun p np => q p np⟩
        · have hne : ds ≠ [] := fun z => e (by rw [z]; rfl)
          obtain ⟨n1, n2, n3, n4⟩ := hd.num hne
          have hp : 0 < ds.length := List.length_pos_iff.mpr hne
          have g : (a ++ ds ++ c)[a.length]? = some ds[0] := by
            rw [List.append_assoc, List.getElem?_append_right (by omega), Nat.sub_self, List.getElem?_append_left hp, List.getElem?_eq_getElem hp]
          have h48 : ds[0] ≠ 48 := fun z => n4 (by rw [List.getElem?_eq_getElem hp, z])
          have h3 := hd.len
          rw [cut_sg a ds c rfl rfl]
          have l6 : (sg ds).length ≤ 640 := by
            rw [sg_len]
            omega
          refine ⟨zl, _, at_nat rfl (by rw [sg_cps]; exact g), if_d (fun z => ?_) fun _ => if_d (fun z => by omega) fun _ => ⟨zl, _, n1, l6, if_d (fun _ => if_nd (fun z => by omega) fun _ => ⟨zl, _, n1, l6, le_size (by decide), fun p np => q p np⟩) (fun z => by omega)⟩⟩
          exact h48 (sign_eq.mp (z.trans (show Str.ofString "0" = ⟨#[48]⟩ by decide +kernel)))
      · rw [decide_eq_true_eq, sg_len] at hc1
        have hcl : 0 < c.length := by omega
        have g : (a ++ ds ++ c)[a.length + ds.length]? = some c[0] := by
          rw [List.getElem?_append_right (by rw [List.length_append]; omega), List.length_append, Nat.sub_self, List.getElem?_eq_getElem hcl]
        refine ⟨zl, _, at_nat rfl (by rw [sg_cps]; exact g), _, rfl, if_f (decide_eq_false fun z => ?_) tl⟩
        exact hc _ (List.getElem?_eq_getElem hcl) ((dig_iff _).mp z))
def sp_read_parts : Sp := fun vs H Q _ => ∃ its : List Item, vs = [.str (sg (fx its)), .int 0, .int 0] ∧ (∀ it ∈ its, ItOk it) ∧ (fx its).length ≤ 9000 ∧
  ∀ p tp xs H', Same H H' → H' p = some (.tup [.ref tp, .int ((fx its).length : Int)]) → H' tp = some (.tup xs) → PartsAt H' xs its → Q (.ref p) H'
theorem O_read_parts (T : Txt K mg) : Ok P w K mg base CX0 2 "read_parts" ["text", "at", "depth"] sp_read_parts :=
  Ok.mk0 T.f_read_parts T.g_read_parts sc_read_parts (by rintro vs H Q E ⟨_, rfl, _⟩; rfl) (fun _ _ _ _ _ _ us hl => match us, hl with | [_, _, _], _ => rfl) (fun f cdv A outer s H vs Q E hr h => by
    obtain ⟨its, rfl, hok, hl, q⟩ := h
    refine ⟨_, (pss_cons (ps_set (i := 3) sc_read_parts.nd rfl (.inl rfl) (pe_lst pa_nil))
    (pss_cons (ps_while PassesOwn.never (PW.pt (pw_and (pt_cmpR op_lt (pv 1) (pe_callB (lenU K) (by rfl) T.n_len (by decide +kernel) (pa_cons (pv 0) pa_nil)) (nomark _)) (pw_and1 (pt_cmpR op_ne (pe_ix ix_str (pv 0) (pv 1) (fun _ _ => rfl)) pe_str (nomark _))))) (pss_cons (ps_set (i := 4) sc_read_parts.nd rfl (.inl rfl) (pe_ix ix_str (pv 0) (pv 1) (fun _ _ => rfl)))
    (pss_cons (ps_if (pt_cmpR op_eq (pv 4) pe_str (nomark _)) pss_never (pss_one (ps_if (pt_cmpR op_notIn_sign (pv 4) (pe_gstr T.c_AXES) rfl) (pss_one ps_never) pss_nil)))
    (pss_cons (ps_asg (cal (O_read_times T) hr (pa_cons (pv 0) (pa_cons (pe_op op_add (pv 1) pe_int) pa_nil))) (pgTup K (n := 2) (pgs_cons (pg_name (i := 6) sc_read_parts.nd rfl (.inl rfl)) (pgs_cons (pg_name (i := 1) sc_read_parts.nd rfl (.inl rfl)) pgs_nil))))
    (pss_one (ps_expr (bmK K PySem.F.plainAttrs_list PySem.F.slot_list_append PySem.F.type_list_append mt_append (pv 3) (pa_cons (pe_tup (pa_cons (pv 4) (pa_cons (pv 6) pa_nil))) pa_nil))))))))
    (pss_one (ps_ret (pe_tup (pa_cons (pe_callTy (tupleOf K) (by rfl) T.n_tuple (by decide +kernel) (pa_cons (pv 3) pa_nil)) (pa_cons (pv 1) pa_nil))))))), ?_⟩
    walk_at "vc"
    refine ⟨le_size (by decide), fun D nD => ?_⟩
    refine ⟨fun m σ' H' => ∃ (i : Nat) (xs : List V) (y4 y5 y6 : Option V), i ≤ its.length ∧ m = its.length - i ∧ σ' = [some (.str (sg (fx its))), some (.int ((fx (its.take i)).length : Int)), some (.int 0), some (.ref D), y4, y5, y6] ∧ Same H H' ∧ H' D = some (.lst xs) ∧ PartsAt H' xs (its.take i),
      ⟨its.length, 0, [], none, none, none, Nat.zero_le _, rfl, rfl, same_new nD, upd_same, rfl, fun j x it hx => by cases hx⟩, ?_⟩
    rintro m σ' H' ⟨i, xs, y4, y5, y6, hi, rfl, rfl, hs, hD, hp⟩
    walk_at "vc"
    have zl : (sg (fx its)).length ≤ sizeLine := le_size (by rw [sg_len]; omega)
    refine ⟨zl, ?_⟩
    have ne1 : ∀ c d : Nat, c ≠ d → ¬ ((⟨#[c]⟩ : Str) = ⟨#[d]⟩) := fun c d h z => h (sign_eq.mp z)
    have eP : Str.ofString ")" = ⟨#[41]⟩ := by decide +kernel
    have eO : Str.ofString "(" = ⟨#[40]⟩ := by decide +kernel
    rw [eP]
    by_cases hie : i < its.length
    · have e0 := fx_take its i hie
      obtain ⟨c1, c2, hds⟩ := hok _ (List.getElem_mem hie)
      have g : (fx its)[(fx (its.take i)).length]? = some its[i].1 := by
        rw [e0, List.getElem?_append_right (Nat.le_refl _), Nat.sub_self]
        rfl
      have hlt := (List.getElem?_eq_some_iff.mp g).1
      have g2 := at_nat (z := ((fx (its.take i)).length : Int)) rfl (show (sg (fx its)).cps.toList[(fx (its.take i)).length]? = _ by rw [sg_cps]; exact g)
      rw [eO]
      refine if_t (decide_eq_true (by rw [sg_len]; omega)) ⟨zl, _, g2, if_nd (fun _ => ⟨_, fun _ _ h => h, zl, _, g2, if_d (fun z => ne1 _ _ (by omega) z) fun _ => ⟨_, rfl, if_nd (fun z => z ((abcd_iff _).mpr ⟨c1, c2⟩)) fun _ => ?_⟩⟩) (fun z => (ne1 _ _ (by omega) z).elim)⟩
      have eA : fx its = (fx (its.take i) ++ [its[i].1]) ++ its[i].2.2 ++ fx (its.drop (i + 1)) := by
        rw [e0]
        simp
      have eL : ((fx (its.take i)).length : Int) + 1 = ((fx (its.take i) ++ [its[i].1]).length : Int) := by
        rw [List.length_append]
        rfl
      refine ⟨_, its[i].2.2, fx (its.drop (i + 1)), its[i].2.1, by rw [← eA, ← eL], by rw [← eA]; omega, hds, fx_head _ fun it h => hok it (List.mem_of_mem_drop h), fun p np => ?_⟩
      walk_at "vc"
      have hx : xs.length = i := by
        rw [hp.1, List.length_take]
        omega
      have hge := fx_ge its
      refine ⟨_, sqT_of upd_same, rfl, _, _, rfl, _, _, rfl, rfl, tyv_l (upd_new np hD), le_size (by decide), fun p2 np2 => ⟨xs, upd_new np2 (upd_new np hD), lt_size (by omega), its.length - (i + 1), by omega, i + 1, by omega, rfl, ?_, ((hs.new np).new np2).own nD, _, upd_same, ?_⟩⟩
      · rw [fx_step its i hie, List.length_append]
        rfl
      · rw [List.take_succ_eq_append_getElem hie]
        exact PartsAt.put (PartsAt.snoc ((hp.same (same_new np)).same (same_new np2)) upd_same) (upd_new np2 (upd_new np hD))
    · have e1 : i = its.length := by omega
      subst e1
      rw [List.take_length]
      refine if_f (decide_eq_false (by rw [sg_len]; omega)) ⟨_, sqL_of hD, fun l nl => ⟨le_size (by decide), fun p np => ?_⟩⟩
      rw [List.take_length] at hp
      refine q p l xs _ ((hs.new nl).new np) upd_same (upd_new np upd_same) ?_
      exact (hp.same (same_new nl)).same (same_new np))
def sp_count_letter (K : PySem.W.Frag) : Sp := fun vs H Q _ => ∃ (its : List Item) (tp : Addr) (xs : List V) (c : Nat), vs = [.ref tp, .str ⟨#[c]⟩] ∧ SqT K H tp xs ∧ PartsAt H xs its ∧ Q (.int ((lx its).count c : Nat)) H
theorem O_count_letter (T : Txt K mg) : Ok P w K mg base CX0 1 "count_letter" ["parts", "letter"] (sp_count_letter K) :=
  Ok.mk0 T.f_count_letter T.g_count_letter sc_count_letter (by rintro vs H Q E ⟨_, _, _, _, rfl, _⟩; rfl) (fun _ _ _ _ _ _ us hl => match us, hl with | [_, _], _ => rfl) (fun f cdv A outer s H vs Q E hr h => by
    obtain ⟨its, tp, xs, c, rfl, ht, hp, q⟩ := h
    refine ⟨_, (pss_cons (ps_set (i := 2) sc_count_letter.nd rfl (.inl rfl) pe_int)
    (pss_cons (ps_for PassesOwn.never rfl (piT K (pv 0)) (pgTup K (n := 2) (pgs_cons (pg_name (i := 3) sc_count_letter.nd rfl (.inl rfl)) (pgs_cons (pg_name (i := 4) sc_count_letter.nd rfl (.inl rfl)) pgs_nil))) (pss_one (ps_if (pt_val (pe_callB (isi K) (by rfl) T.n_isinstance (by decide +kernel) (pa_cons (pv 3) (pa_cons (pe_bltn (v := .ty "tuple") rfl T.n_tuple (by decide +kernel) rfl) pa_nil)))) pss_never (pss_one (ps_if (pt_cmpR op_eq (pv 3) (pv 1) (nomark _)) (pss_one (ps_set (i := 2) sc_count_letter.nd rfl (.inl rfl) (pe_op op_add (pv 2) (pv 4)))) pss_nil)))))
    (pss_one (ps_ret (pv 2))))), ?_⟩
    walk_at "vc"
    refine ⟨⟨_, ht⟩, ?_⟩
    refine loop_t (xs := xs) (fun i σ' H' => ∃ y3 y4 : Option V, σ' = [some (.ref tp), some (.str ⟨#[c]⟩), some (.int ((lx (its.take i)).count c : Nat)), y3, y4] ∧ H' = H) ⟨none, none, rfl, rfl⟩ (by rintro i σ' H' _ ⟨_, _, _, rfl⟩; exact ht) ?_ ?_
    · rintro i x σ' H' hx ⟨y3, y4, rfl, rfl⟩
      have hil := (List.getElem?_eq_some_iff.mp hx).1
      rw [hp.1] at hil
      obtain ⟨a, rfl, ha⟩ := hp.2 i x _ hx (List.getElem?_eq_getElem hil)
      walk_at "vc"
      refine ⟨_, sqT_of ha, rfl, _, _, rfl, _, _, rfl, rfl, ?_⟩
      walk_at "vc"
      rw [lx_take its i hil, List.count_append, List.count_replicate]
      refine if_d (fun e => ⟨?_, _, rfl⟩) (fun e => ⟨?_, _, rfl⟩)
      · rw [sign_eq.mp e, if_pos (beq_self_eq_true _)]
        exact (Int.natCast_add _ _).symm
      · rw [if_neg fun z => e (by rw [beq_iff_eq.mp z]; rfl)]
        rfl
    · rintro σ' H' ⟨y3, y4, rfl, rfl⟩
      walk_at "vc"
      rw [hp.1, List.take_length]
      exact q)
def sp_written (K : PySem.W.Frag) : Sp := fun vs H Q _ => ∃ (its : List Item) (tp : Addr) (xs : List V), vs = [.ref tp] ∧ SqT K H tp xs ∧ PartsAt H xs its ∧ (∀ it ∈ its, ItOk it) ∧ (lx its).length ≤ 9000 ∧ ∀ H', Same H H' → Q (.str (sg (lx its))) H'
theorem O_written (T : Txt K mg) : Ok P w K mg base CX0 1 "written" ["parts"] (sp_written K) :=
  Ok.mk0 T.f_written T.g_written sc_written (by rintro vs H Q E ⟨_, _, _, rfl, _⟩; rfl) (fun _ _ _ _ _ _ us hl => match us, hl with | [_], _ => rfl) (fun f cdv A outer s H vs Q E hr h => by
    obtain ⟨its, tp, xs, rfl, ht, hp, hok, hl, q⟩ := h
    refine ⟨_, (pss_one (ps_ret (bmK K PySem.F.plainAttrs_str PySem.F.slot_str_join PySem.F.type_str_join (mtJoin K) pe_str (pa_cons (pe_lc (own := [("content", 1), ("times", 2)]) (g := (gTup K 2 (gCons (gName 1) (gCons (gName 2) gNil)))) rfl sc_written.nd (piT K (pv 0)) (blkOk_by (N := N_written) (sc := defScope s_written) (by decide +kernel)) (fun _ _ _ _ _ => (pgTup K (n := 2) (pgs_cons (pg_name (i := 1) sc_written.nd rfl (.inl rfl)) (pgs_cons (pg_name (i := 2) sc_written.nd rfl (.inl rfl)) pgs_nil)))) (fun _ _ _ _ _ => pts_nil) (fun _ _ _ _ _ => (pe_op op_mul_str (pe_ifExp (pt_val (pe_callB (isi K) (by rfl) T.n_isinstance (by decide +kernel) (pa_cons (pv 1) (pa_cons (pe_bltn (v := .ty "tuple") rfl T.n_tuple (by decide +kernel) rfl) pa_nil)))) pe_dead (pv 1)) (pv 2)))) pa_nil)))), ?_⟩
    walk_at "vc"
    refine ⟨⟨_, ht⟩, ?_⟩
    refine comp_t (xs := xs) (fun D i H' => H' = upd H D (.lst ((its.take i).map fun it => V.str (sg (List.replicate it.2.1 it.1))))) (fun D nD => rfl) (fun D i H' nD _ e => by rw [e]; exact (same_new nD).sqT ht) ?_ ?_
    · rintro D i x H' nD hx rfl
      have hil := (List.getElem?_eq_some_iff.mp hx).1
      rw [hp.1] at hil
      obtain ⟨a, rfl, ha⟩ := hp.2 i x _ hx (List.getElem?_eq_getElem hil)
      have ht240 := (hok _ (List.getElem_mem hil)).2.2.most
      walk_at "vc"
      refine ⟨_, sqT_of (upd_new nD ha), rfl, _, _, rfl, _, _, rfl, rfl, ?_⟩
      walk_at "vc"
      refine ⟨mul_sign_ok (by omega), _, upd_same, ?_, ?_⟩
      · rw [List.length_map, List.length_take]
        have := lx_ge its hok
        exact lt_size (by omega)
      · rw [upd_upd, List.take_succ_eq_append_getElem hil, List.map_append]
        have e := mul_sign (c := its[i].1) (n := its[i].2.1) ht240.1
        rw [show sg [its[i].1] = ⟨#[its[i].1]⟩ from rfl, e]
        try rfl
    · rintro D H' nD rfl
      walk_at "vc"
      rw [hp.1, List.take_length]
      refine ⟨its.map fun it => sg (List.replicate it.2.1 it.1), sqL_of (by rw [upd_same, List.map_map]; rfl), ?_, ?_⟩
      · rw [List.map_map]
        have e : (its.map ((fun x : Str => x.length) ∘ fun it : Item => sg (List.replicate it.2.1 it.1))).sum = (lx its).length := by
          unfold lx
          rw [List.length_flatMap]
          congr 1
        rw [e]
        show _ + _ * 0 ≤ _
        omega
      · have e : Txt.join (Str.ofString "") (its.map fun it : Item => sg (List.replicate it.2.1 it.1)) = sg (lx its) := by
          have := glue_sg (its.map fun it : Item => List.replicate it.2.1 it.1)
          rw [List.map_map] at this
          exact this.trans (by rw [lx, List.flatMap_def])
        rw [e]
        exact q _ (same_new nD))

end
section
variable {P : Program} {w : World} {K : PySem.W.Frag} {mg : Str → Option Value} {base : Heap}
def sp_read_weave : Sp := fun vs H Q _ => ∃ (its : List Item) (n : Nat), vs = [.str (sg (fx its))] ∧ (∀ it ∈ its, ItOk it) ∧ (fx its).length ≤ 9000 ∧ WOk (lx its) n ∧ ∀ H', Same H H' → Q (.str (sg (lx its))) H'
theorem O_read_weave (T : Txt K mg) : Ok P w K mg base CX0 3 "read_weave" ["text"] sp_read_weave :=
  Ok.mk0 T.f_read_weave T.g_read_weave sc_read_weave (by rintro vs H Q E ⟨_, _, rfl, _⟩; rfl) (fun _ _ _ _ _ _ us hl => match us, hl with | [_], _ => rfl) (fun f cdv A outer s H vs Q E hr h => by
    obtain ⟨its, n, rfl, hok, hl, hW, q⟩ := h
    refine ⟨_, (pss_cons (ps_if (pt_not (pt_val (pe_callB (isi K) (by rfl) T.n_isinstance (by decide +kernel) (pa_cons (pv 0) (pa_cons (pe_bltn (v := .ty "str") rfl T.n_str (by decide +kernel) rfl) pa_nil))))) (pss_one ps_never) pss_nil)
    (pss_cons (ps_asg (cal (O_read_parts T) hr (pa_cons (pv 0) (pa_cons pe_int (pa_cons pe_int pa_nil)))) (pgTup K (n := 2) (pgs_cons (pg_name (i := 1) sc_read_weave.nd rfl (.inr rfl)) (pgs_cons (pg_name (i := 2) sc_read_weave.nd rfl (.inl rfl)) pgs_nil))))
    (pss_cons (ps_if (pt_cmpR op_lt (pv 2) (pe_callB (lenU K) (by rfl) T.n_len (by decide +kernel) (pa_cons (pv 0) pa_nil)) (nomark _)) (pss_one ps_never) pss_nil)
    (pss_cons (ps_setLc (i := 3) (own := [("letter", 4)]) (g := (gName 4)) rfl sc_read_weave.nd rfl rfl (sw_true rfl rfl rfl (by decide +kernel)) (pi_str (pe_gstr T.c_AXES)) (blkOk_by (N := N_read_weave) (sc := defScope s_read_weave) (by decide +kernel)) (fun _ _ _ _ _ => (pg_name (i := 4) sc_read_weave.nd rfl (.inl rfl))) (fun _ _ _ _ _ => pts_nil) (fun _ _ _ _ _ => (cal (O_count_letter T) hr (pa_cons (pv 1) (pa_cons (pv 4) pa_nil)))))
    (pss_cons (ps_while PassesOwn.never (PW.pt (pw_and (pt_cmpR (neD K hr) (pv 3) (pe_lst pa_nil) (nomark _)) (pw_and1 (pt_cmpR op_eq (pe_ix (ixL K) (pv 3) (pe_un un_neg pe_int) (fun _ _ => rfl)) pe_int (nomark _))))) (pss_one (ps_set (i := 3) sc_read_weave.nd rfl (.inl rfl) (pe_slice (slL K) (pv 3) po_none (po_some (pe_un un_neg pe_int))))))
    (pss_cons (ps_if (PW.pt (pw_or (pt_cmpR (eqD K hr) (pv 3) (pe_lst pa_nil) (nomark _)) (pw_or1 (pt_cmpR (inSeq K) pe_int (pv 3) rfl)))) (pss_one ps_never) pss_nil)
    (pss_cons (ps_if (pt_cmpR op_gt (pe_callB (maxL K) (by rfl) T.n_max (by decide +kernel) (pa_cons (pv 3) pa_nil)) (pe_gint T.c_MOST_BITS) (nomark _)) (pss_one ps_never) pss_nil)
    (pss_cons (ps_if (pt_cmpR op_gt (pe_callB (sumL K) (by rfl) T.n_sum (by decide +kernel) (pa_cons (pv 3) pa_nil)) (pe_gint T.c_MOST_LETTERS) (nomark _)) (pss_one ps_never) pss_nil)
    (pss_one (ps_ret (cal (O_written T) hr (pa_cons (pv 1) pa_nil)))))))))))), ?_⟩
    walk_at "vc"
    refine ⟨its, rfl, hok, hl, fun p tp xs H1 hs hp htp hat => ?_⟩
    walk_at "vc"
    refine ⟨_, sqT_of hp, rfl, _, _, rfl, _, _, rfl, rfl, le_size (by rw [sg_len]; omega), _, rfl, if_d (fun z => by rw [sg_len] at z; omega) fun _ => ?_⟩
    refine comp_w walk_str (fun D i H' => H' = upd H1 D (.lst ((cnts (lx its) i).map V.int))) (fun D nD => rfl) (fun _ _ _ _ _ _ => True.intro) ?_ ?_
    · rintro D i x H' H2 nD hi rfl ⟨rfl, c, hc, rfl⟩
      have ec : c = 97 + i := abcd_at hc
      subst ec
      walk_at "vc"
      refine ⟨its, tp, xs, _, rfl, (same_new nD).sqT (sqT_of htp), hat.same (same_new nD), ?_⟩
      refine ⟨_, upd_same, ?_, ?_⟩
      · rw [List.length_map]
        unfold cnts
        rw [List.length_map, List.length_range]
        have : i < 4 := hi
        exact lt_size (by omega)
      · rw [upd_upd]
        unfold cnts
        rw [List.range_succ, List.map_append, List.map_append]
        rfl
    · rintro D H' nD rfl
      refine ⟨fun m σ' H' => ∃ (k : Nat) (D' : Addr), n ≤ k ∧ k ≤ 4 ∧ m = k ∧ σ' = [some (.str (sg (fx its))), some (.ref tp), some (.int ((fx its).length : Int)), some (.ref D'), none] ∧ Same H1 H' ∧ H' D' = some (.lst ((cnts (lx its) k).map V.int)), ⟨4, 4, D, hW.n4, Nat.le_refl _, rfl, rfl, same_new nD, upd_same⟩, ?_⟩
      rintro m σ' H2 ⟨k, D', hk1, hk4, rfl, rfl, hs2, hD'⟩
      have hlen : ∀ j, (cnts (lx its) j).length = j := fun j => by
        unfold cnts
        rw [List.length_map, List.length_range]
      have m1 : 1 ≤ m := Nat.le_trans hW.n1 hk1
      walk_at "vc"
      refine ⟨Nat.zero_le _, fun p2 np2 => ?_⟩
      refine neE_do (sqL_of (upd_new np2 hD')) upd_same (by rw [hlen]; omega) ⟨true, rfl, if_t rfl ?_⟩
      have hs3 := hs2.new (o := .lst []) np2
      have hD3 := upd_new (o := .lst []) np2 hD'
      generalize upd H2 p2 (.lst []) = H3 at *
      have hat1 : atI ((cnts (lx its) m).map V.int) (-1) = some (V.int ((lx its).count (97 + (m - 1)) : Nat)) := at_last (by rw [hlen]; omega) (by rw [hlen, cnts_at (by omega)])
      refine ⟨_, sqL_of hD3, _, hat1, rfl, if_d (fun e => ?_) (fun e => ?_)⟩
      · have e' : (lx its).count (97 + (m - 1)) = 0 := by
          have := V.int.inj e
          omega
        have hnm : n < m := by
          rcases Nat.lt_or_ge n m with h | h
          · exact h
          · have := hW.lo (m - 1) (by omega)
            omega
        refine ⟨_, fun _ _ h => h, ?_⟩
        refine ⟨D', _, rfl, sqL_of hD3, fun p3 np3 => ?_⟩
        refine ⟨m - 1, by omega, m - 1, by omega, by omega, rfl, p3, rfl, hs3.new np3, ?_⟩
        rw [upd_same, cnts_cut m1]
      · have hnm : m = n := by
          rcases Nat.lt_or_ge n m with h | h
          · have := hW.no (m - 1) (by omega) (by omega)
            exact absurd (by rw [this]; rfl) e
          · omega
        subst hnm
        refine ⟨Nat.zero_le _, fun p3 np3 => ?_⟩
        refine eqE_do (sqL_of (upd_new np3 hD3)) upd_same (by rw [hlen]; omega) ⟨false, rfl, if_f rfl ?_⟩
        have hs4 := hs3.new (o := .lst []) np3
        have hD4 := upd_new (o := .lst []) np3 hD3
        generalize upd H3 p3 (.lst []) = H4 at *
        refine ⟨D', _, rfl, .inl (sqL_of hD4), rfl, flat_ints _, false, ?_, if_f rfl ?_⟩
        · have : inV (V.int 0) ((cnts (lx its) m).map V.int) = false := by
            unfold inV
            rw [List.any_eq_false]
            intro x hx
            obtain ⟨i, hi, rfl⟩ := List.mem_map.mp hx
            obtain ⟨k, hk, rfl⟩ := cnts_mem hi
            have := hW.lo k hk
            show ¬ (((lx its).count (97 + k) : Int) == 0) = true
            rw [beq_iff_eq]
            omega
          rw [this]
          rfl
        · refine ⟨D', cnts (lx its) m, rfl, sqL_of hD4, by rw [hlen]; omega, fun M hM _ => ⟨M, rfl, if_d (fun z => ?_) fun _ => ⟨D', cnts (lx its) m, rfl, sqL_of hD4, _, rfl, if_d (fun z => ?_) fun _ => ?_⟩⟩⟩
          · obtain ⟨k, hk, rfl⟩ := cnts_mem hM
            have := hW.hi k hk
            omega
          · rw [cnts_sum] at z
            have h1 := List.length_filter_le (fun c => decide (97 ≤ c ∧ c < 97 + m)) (lx its)
            have h2 := hW.le
            omega
          · exact ⟨its, tp, xs, rfl, hs4.sqT (sqT_of htp), hat.same hs4, hok, Nat.le_trans hW.le (by decide), fun H' hH' => q _ (hs.trans (hs4.trans hH'))⟩)
/-! ### the class -/
def sp_Weave___init__ (K : PySem.W.Frag) : Sp := fun vs H Q _ => ∃ (x dx : Addr) (its : List Item) (n : Nat), vs = [.ref x, .str (sg (fx its))] ∧ H x = some (.ins (He.ga K "Weave") dx []) ∧ (∀ it ∈ its, ItOk it) ∧ (fx its).length ≤ 9000 ∧ WOk (lx its) n ∧
  ∀ H', But x H H' → shp K H' x (lx its) n → Q .non H'
theorem O_Weave___init__ (T : Txt K mg) : OkM P w K mg base CX0 4 (He.ma K (He.ga K "Weave") "__init__") ["self", "text"] (sp_Weave___init__ K) :=
  OkM.mk0 T.f_Weave___init__ sc_Weave___init__ (by rintro vs H Q E ⟨_, _, _, _, rfl, _⟩; rfl) (fun _ _ _ _ _ _ us hl => match us, hl with | [_, _], _ => rfl) (fun f cdv A outer s H vs Q E hr h => by
    obtain ⟨x, dx, its, n, rfl, hx, hok, hl, hW, q⟩ := h
    refine ⟨_, (pss_cons (sfldK K (pv 0) (cal (O_read_weave T) hr (pa_cons (pv 1) pa_nil)))
    (pss_one (sfldK K (pv 0) (pe_callTy (tupleOf K) (by rfl) T.n_tuple (by decide +kernel) (pa_cons (pe_lc (own := [("letter", 2)]) (g := (gName 2)) rfl sc_Weave___init__.nd (pi_str (pe_gstr T.c_AXES)) (blkOk_by (N := N_Weave___init__) (sc := defScope s_Weave___init__) (by decide +kernel)) (fun _ _ _ _ _ => (pg_name (i := 2) sc_Weave___init__.nd rfl (.inl rfl))) (fun _ _ _ _ _ => (pts_one (pt_cmpR op_in_sign (pv 2) (fldK K (pv 0)) rfl))) (fun _ _ _ _ _ => (bmK K PySem.F.plainAttrs_str PySem.F.slot_str_count PySem.F.type_str_count mt_count (fldK K (pv 0)) (pa_cons (pv 2) pa_nil)))) pa_nil))))), ?_⟩
    walk_at "vc"
    refine ⟨its, n, rfl, hok, hl, hW, fun H1 hs => ?_⟩
    have hx1 := hs _ _ hx
    refine ⟨_, dx, _, hx1, T.k_Weave, T.a_Weave_own_letters, by decide, ?_⟩
    show CompL _ _ _ _ _ _ (upd H1 x (.ins (He.ga K "Weave") dx [("own_letters", .str (sg (lx its)))])) _
    have h2 : upd H1 x (.ins (He.ga K "Weave") dx [("own_letters", .str (sg (lx its)))]) x = _ := upd_same
    have b2 : But x H (upd H1 x (.ins (He.ga K "Weave") dx [("own_letters", .str (sg (lx its)))])) := (But.of_same hs).at
    generalize upd H1 x (.ins (He.ga K "Weave") dx [("own_letters", .str (sg (lx its)))]) = H2 at *
    refine comp_w walk_str (fun D i H' => H' = upd H2 D (.lst ((cnts (lx its) (min i n)).map V.int))) (fun D nD => by rw [Nat.zero_min]; rfl) (fun _ _ _ _ _ _ => True.intro) ?_ ?_
    · rintro D i y H' H3 nD hi rfl ⟨rfl, c, hc, rfl⟩
      have ec : c = 97 + i := abcd_at hc
      subst ec
      have hi4 : i < 4 := hi
      have h2D := upd_new (o := .lst ((cnts (lx its) (min i n)).map V.int)) nD h2
      walk_at "vc"
      refine ⟨_, dx, _, h2D, T.k_Weave, T.a_Weave_own_letters, _, rfl, ?_⟩
      walk_at "vc"
      rw [sg_cps]
      refine ⟨_, rfl, if_d (fun e => ?_) (fun e => ?_)⟩
      · have hin : i < n := by
          rcases Nat.lt_or_ge i n with h | h
          · exact h
          · have := hW.no i h hi4
            have := List.count_pos_iff.mpr e
            omega
        refine ⟨_, dx, _, h2D, T.k_Weave, T.a_Weave_own_letters, _, rfl, rfl, _, rfl, _, upd_same, ?_, ?_⟩
        · rw [List.length_map]
          unfold cnts
          rw [List.length_map, List.length_range]
          exact lt_size (by omega)
        · rw [upd_upd, count_sign, Nat.min_eq_left (by omega), Nat.min_eq_left (by omega), cnts_succ, List.map_append]
          rfl
      · have hin : n ≤ i := by
          rcases Nat.lt_or_ge i n with h | h
          · have := hW.lo i h
            exact absurd (List.count_pos_iff.mp (by omega)) e
          · exact h
        rw [Nat.min_eq_right hin, Nat.min_eq_right (by omega)]
    · rintro D H' nD rfl
      walk_at "vc"
      have e4 : (Str.ofString "abcd").cps.size = 4 := by decide +kernel
      rw [e4, Nat.min_eq_right hW.n4]
      refine ⟨_, sqL_of upd_same, fun l nl => ?_⟩
      have h3 := upd_new (o := .tup ((cnts (lx its) n).map V.int)) nl (upd_new (o := .lst ((cnts (lx its) n).map V.int)) nD h2)
      refine ⟨_, dx, _, h3, T.k_Weave, T.a_Weave_own_shape, by show 1 < 1000; decide, ?_⟩
      refine q _ ((b2.new nD).new nl).at ⟨dx, l, upd_same, upd_at ?_ upd_same⟩
      exact (ne_of_none (upd_new nD h2) nl).symm)
/-- a new weave, wherever it is made -/
theorem weave_do {its : List Item} {n : Nat} {H : Hp} {Q : Addr → Hp → Prop} (hok : ∀ it ∈ its, ItOk it) (hl : (fx its).length ≤ 9000) (hW : WOk (lx its) n) (q : ∀ x H', Same H H' → H x = none → shp K H' x (lx its) n → Q x H') :
    ∀ x dx, H x = none → H dx = none → dx ≠ x → sp_Weave___init__ K [.ref x, .str (sg (fx its))] (upd (upd H dx (.own x)) x (.ins (He.ga K "Weave") dx [])) (fun v H2 => v = .non ∧ Q x H2) E0 :=
  fun x dx nx ndx ne => ⟨x, dx, its, n, rfl, upd_same, hok, hl, hW, fun H' b s => ⟨rfl, q x H' (fun y o h => b y o (ne_of_none h nx) (upd_at (ne_of_none h nx) (upd_new ndx h))) nx s⟩⟩
def sp_Weave_letters (K : PySem.W.Frag) : Sp := fun vs H Q _ => ∃ (x : Addr) (l : List Nat) (n : Nat), vs = [.ref x] ∧ shp K H x l n ∧ Q (.str (sg l)) H
theorem O_Weave_letters (T : Txt K mg) : OkM P w K mg base CX0 1 (gpa K (He.ga K "Weave") "letters") ["self"] (sp_Weave_letters K) :=
  OkM.mk0 T.f_Weave_letters sc_Weave_letters (by rintro vs H Q E ⟨_, _, _, rfl, _⟩; rfl) (fun _ _ _ _ _ _ us hl => match us, hl with | [_], _ => rfl) (fun f cdv A outer s H vs Q E hr h => by
    obtain ⟨x, l, n, rfl, ⟨dx, sh, hx, hs⟩, q⟩ := h
    refine ⟨_, (pss_one (ps_ret (fldK K (pv 0)))), ?_⟩
    walk_at "vc"
    exact ⟨_, dx, _, hx, T.k_Weave, T.a_Weave_own_letters, _, rfl, q⟩)
def sp_Weave_shape (K : PySem.W.Frag) : Sp := fun vs H Q _ => ∃ (x : Addr) (l : List Nat) (n : Nat), vs = [.ref x] ∧ shp K H x l n ∧ ∀ sh, H sh = some (.tup ((cnts l n).map V.int)) → Q (.ref sh) H
theorem O_Weave_shape (T : Txt K mg) : OkM P w K mg base CX0 1 (gpa K (He.ga K "Weave") "shape") ["self"] (sp_Weave_shape K) :=
  OkM.mk0 T.f_Weave_shape sc_Weave_shape (by rintro vs H Q E ⟨_, _, _, rfl, _⟩; rfl) (fun _ _ _ _ _ _ us hl => match us, hl with | [_], _ => rfl) (fun f cdv A outer s H vs Q E hr h => by
    obtain ⟨x, l, n, rfl, ⟨dx, sh, hx, hs⟩, q⟩ := h
    refine ⟨_, (pss_one (ps_ret (fldK K (pv 0)))), ?_⟩
    walk_at "vc"
    exact ⟨_, dx, _, hx, T.k_Weave, T.a_Weave_own_shape, _, rfl, q sh hs⟩)

theorem weave_new {l : List Nat} {n : Nat} {H : Hp} {Q : Addr → Hp → Prop} (hW : WOk l n) (q : ∀ x H', Same H H' → H x = none → shp K H' x l n → Q x H') :
    ∀ x dx, H x = none → H dx = none → dx ≠ x → sp_Weave___init__ K [.ref x, .str (sg l)] (upd (upd H dx (.own x)) x (.ins (He.ga K "Weave") dx [])) (fun v H2 => v = .non ∧ Q x H2) E0 := by
  have e1 : fx (l.map fun c => (c, 1, [])) = l := by
    unfold fx
    rw [List.flatMap_map]
    simp
  have e2 : lx (l.map fun c => (c, 1, [])) = l := by
    unfold lx
    rw [List.flatMap_map]
    simp
  have h := weave_do (K := K) (its := l.map fun c => (c, 1, [])) (n := n) (H := H) (Q := Q) (fun it hit => by
    obtain ⟨c, hc, rfl⟩ := List.mem_map.mp hit
    obtain ⟨a, b⟩ := hW.al c hc
    exact ⟨a, b, ⟨(fun d hd => by cases hd), (fun _ => rfl), Nat.zero_le _, (fun z => absurd rfl z)⟩⟩) (by rw [e1]; exact Nat.le_trans hW.le (by decide)) (by rw [e2]; exact hW) (by rw [e2]; exact q)
  rw [e1] at h
  exact h

end
section
variable {P : Program} {w : World} {K : PySem.W.Frag} {mg : Str → Option Value} {base : Heap}
def sp_path_of (K : PySem.W.Frag) : Sp := fun vs H Q _ => ∃ (l : List Nat) (n : Nat) (sh : Addr) (zs : List V), vs = [.str (sg l), .ref sh] ∧ SqT K H sh zs ∧ zs.length = n ∧ n ≤ 4 ∧ (∀ c ∈ l, 97 ≤ c ∧ c < 97 + n) ∧ l.length ≤ 240 ∧
  ∀ D xs H', Same H H' → H' D = some (.lst xs) → xs.length = l.length → PathAt H' xs l n → Q (.ref D) H'
theorem O_path_of (T : Txt K mg) : Ok P w K mg base CX0 1 "path_of" ["letters", "shape"] (sp_path_of K) :=
  Ok.mk0 T.f_path_of T.g_path_of sc_path_of (by rintro vs H Q E ⟨_, _, _, _, rfl, _⟩; rfl) (fun _ _ _ _ _ _ us hl => match us, hl with | [_, _], _ => rfl) (fun f cdv A outer s H vs Q E hr h => by
    obtain ⟨l, n, sh, zs, rfl, hsh, hzs, hn, hl, hlen, q⟩ := h
    refine ⟨_, (pss_cons (ps_set (i := 2) sc_path_of.nd rfl (.inl rfl) (pe_op op_rep (pe_lst (pa_cons pe_int pa_nil)) (pe_callB (lenU K) (by rfl) T.n_len (by decide +kernel) (pa_cons (pv 1) pa_nil))))
    (pss_cons (ps_set (i := 3) sc_path_of.nd rfl (.inl rfl) (pe_lst pa_nil))
    (pss_cons (ps_for PassesOwn.never rfl (pi_str (pv 0)) (pg_name (i := 4) sc_path_of.nd rfl (.inl rfl)) (pss_cons (ps_set (i := 5) sc_path_of.nd rfl (.inl rfl) (bmK K PySem.F.plainAttrs_str PySem.F.slot_str_index PySem.F.type_str_index mt_sindex (pe_gstr T.c_AXES) (pa_cons (pv 4) pa_nil)))
    (pss_cons (ps_expr (bmK K PySem.F.plainAttrs_list PySem.F.slot_list_append PySem.F.type_list_append mt_append (pv 3) (pa_cons (pe_tup (pa_cons (pv 5) (pa_cons (pe_callTy (tupleOf K) (by rfl) T.n_tuple (by decide +kernel) (pa_cons (pv 2) pa_nil)) pa_nil))) pa_nil)))
    (pss_one (ps_asg (pe_op op_add (pe_ix (ixL K) (pv 2) (pv 5) (fun _ _ => rfl)) pe_int) (pg_sub (pv 2) (pv 5) set_list))))))
    (pss_one (ps_ret (pv 3)))))), ?_⟩
    walk_at "vc"
    refine ⟨le_size (by decide), fun pz npz => ⟨_, .inr ⟨_, (same_new npz).sqT hsh, rfl⟩, ?_⟩⟩
    refine ⟨_, upd_same, by omega, by omega, le_size (by show 1 * _ ≤ _; omega), fun LV nLV => ⟨Nat.zero_le _, fun F nF => ?_⟩⟩
    have eR : (List.replicate ((zs.length : Int)).toNat [V.int 0]).flatten = (cnts (l.take 0) n).map V.int := by
      rw [List.take_zero, cnts_nil, hzs, Int.toNat_natCast, List.map_replicate]
      exact rep_one _ n
    rw [eR] at nF ⊢
    have s1 := ((same_new npz).new nLV).new (o := .lst []) nF
    have hLV := upd_new (o := .lst []) nF (upd_same (H := upd H pz (.lst [.int 0])) (a := LV) (o := .lst ((cnts (l.take 0) n).map V.int)))
    have hF : upd (upd (upd H pz (.lst [.int 0])) LV (.lst ((cnts (l.take 0) n).map V.int))) F (.lst []) F = _ := upd_same
    have nLV0 : H LV = none := none_of nLV
    have nF0 : H F = none := none_of (none_of nF)
    have neF : LV ≠ F := ne_of_none upd_same nF
    generalize upd (upd (upd H pz (.lst [.int 0])) LV (.lst ((cnts (l.take 0) n).map V.int))) F (.lst []) = H1 at *
    refine loop_w walk_str (fun i σ' H' => ∃ (xs : List V) (y4 y5 : Option V), σ' = [some (.str (sg l)), some (.ref sh), some (.ref LV), some (.ref F), y4, y5] ∧ Same H H' ∧ H' LV = some (.lst ((cnts (l.take i) n).map V.int)) ∧ H' F = some (.lst xs) ∧ xs.length = i ∧ PathAt H' xs l n)
      ⟨[], none, none, rfl, s1, hLV, hF, rfl, fun j x c hx => by cases hx⟩ (fun _ _ _ _ _ => True.intro) ?_ ?_
    · rintro i x σ' H2 H3 hi ⟨xs, y4, y5, rfl, hs, hv, hf, hx, hp⟩ ⟨rfl, c, hc, rfl⟩
      have hc' : l[i]? = some c := by
        have : (sg l).cps.toList[i]? = some c := by rw [Array.getElem?_toList]; exact hc
        rw [sg_cps] at this
        exact this
      have hil := (List.getElem?_eq_some_iff.mp hc').1
      obtain ⟨c1, c2⟩ := hl c (List.mem_of_getElem? hc')
      walk_at "vc"
      refine ⟨c - 97, _, abcd_index c1 (by omega), tyv_l hf, ?_⟩
      have hat : ((cnts (l.take i) n).map V.int)[c - 97]? = some (V.int ((l.take i).count c : Nat)) := by
        rw [List.getElem?_map, cnts_at (by omega), show 97 + (c - 97) = c by omega]
        rfl
      have hln : ((cnts (l.take i) n).map V.int).length = n := by rw [List.length_map, cnts_len]
      have hix : ixN ((cnts (l.take i) n).map V.int).length ((c - 97 : Nat) : Int) = some (c - 97) := by
        unfold ixN
        rw [hln, if_pos (by omega), if_pos (by omega), Int.toNat_natCast]
      refine ⟨_, sqL_of hv, fun t nt => ⟨le_size (by decide), fun a na => ?_⟩⟩
      have hf2 := upd_new (o := .tup [.int ((c - 97 : Nat) : Int), .ref t]) na (upd_new (o := .tup ((cnts (l.take i) n).map V.int)) nt hf)
      have hv2 := upd_at (o := .lst (xs ++ [.ref a])) neF (upd_new (o := .tup [.int ((c - 97 : Nat) : Int), .ref t]) na (upd_new (o := .tup ((cnts (l.take i) n).map V.int)) nt hv))
      have hp2 := PathAt.snoc (a := a) (t := t) (c := c) ((hp.same (same_new (o := .tup ((cnts (l.take i) n).map V.int)) nt)).same (same_new (o := .tup [.int ((c - 97 : Nat) : Int), .ref t]) na)) (by rw [hx]; exact hc') upd_same (by rw [hx]; exact upd_new na upd_same)
      refine ⟨xs, hf2, lt_size (by omega), _, sqL_of hv2, _, at_nat rfl hat, _, rfl, _, hv2, _, hix, ((((hs.new nt).new na).own nF0).own nLV0), ?_, _, upd_at neF.symm upd_same, by rw [List.length_append, hx]; rfl, (hp2.put hf2).put hv2⟩
      rw [upd_same, List.take_succ_eq_append_getElem hil, cnts_snoc (by rw [show l[i] = c from Option.some.inj ((List.getElem?_eq_getElem hil).symm.trans hc')]; exact c1) (by rw [show l[i] = c from Option.some.inj ((List.getElem?_eq_getElem hil).symm.trans hc')]; exact c2), show l[i] = c from Option.some.inj ((List.getElem?_eq_getElem hil).symm.trans hc'), List.map_set]
    · rintro σ' H2 ⟨xs, y4, y5, rfl, hs, hv, hf, hx, hp⟩
      walk_at "vc"
      refine q F xs H2 hs hf ?_ hp
      rw [hx]
      exact sg_len l)
def sp_key_number (K : PySem.W.Frag) : Sp := fun vs H Q _ => ∃ (l : List Nat) (n : Nat) (sh ce : Addr) (cs : List Int), vs = [.str (sg l), .ref sh, .ref ce] ∧ WOk l n ∧ SqT K H sh ((cnts l n).map V.int) ∧ SqT K H ce (cs.map V.int) ∧ CellOk l n cs ∧ ∀ H', Same H H' → Q (.int (keyN l cs l.length)) H'
theorem O_key_number (T : Txt K mg) : Ok P w K mg base CX0 2 "key_number" ["letters", "shape", "cell"] (sp_key_number K) :=
  Ok.mk0 T.f_key_number T.g_key_number sc_key_number (by rintro vs H Q E ⟨_, _, _, _, _, rfl, _⟩; rfl) (fun _ _ _ _ _ _ us hl => match us, hl with | [_, _, _], _ => rfl) (fun f cdv A outer s H vs Q E hr h => by
    obtain ⟨l, n, sh, ce, cs, rfl, hW, hsh, hce, hc, q⟩ := h
    refine ⟨_, (pss_cons (ps_set (i := 3) sc_key_number.nd rfl (.inl rfl) pe_int)
    (pss_cons (ps_for PassesOwn.never rfl (piL K (cal (O_path_of T) hr (pa_cons (pv 0) (pa_cons (pv 1) pa_nil)))) (pgTup K (n := 2) (pgs_cons (pg_name (i := 4) sc_key_number.nd rfl (.inl rfl)) (pgs_cons (pg_name (i := 5) sc_key_number.nd rfl (.inl rfl)) pgs_nil))) (pss_one (ps_set (i := 3) sc_key_number.nd rfl (.inl rfl) (pe_op op_add (pe_op op_mulX (pv 3) pe_int) (pe_op op_mod (pe_op op_shrN (pe_ix (ixT K) (pv 2) (pv 4) (fun _ _ => rfl)) (pe_op op_sub (pe_op op_sub (pe_ix (ixT K) (pv 1) (pv 4) (fun _ _ => rfl)) (pe_ix (ixT K) (pv 5) (pv 4) (fun _ _ => rfl))) pe_int)) pe_int)))))
    (pss_one (ps_ret (pv 3))))), ?_⟩
    walk_at "vc"
    refine ⟨l, n, sh, _, rfl, hsh, by rw [List.length_map, cnts_len], hW.n4, hW.rng, hW.le, fun D xs H1 hs hD hx hp => ?_⟩
    walk_at "vc"
    refine ⟨⟨_, sqL_of hD⟩, loop_l (xs := xs) (fun i σ' H' => ∃ y4 y5 : Option V, σ' = [some (.str (sg l)), some (.ref sh), some (.ref ce), some (.int (keyN l cs i)), y4, y5] ∧ H' = H1) ⟨none, none, rfl, rfl⟩ (by rintro i σ' H' _ ⟨_, _, _, rfl⟩; exact sqL_of hD) ?_ ?_⟩
    · rintro i x σ' H' hxi ⟨y4, y5, rfl, rfl⟩
      have hil := (List.getElem?_eq_some_iff.mp hxi).1
      rw [hx] at hil
      have hc' : l[i]? = some l[i] := List.getElem?_eq_getElem hil
      obtain ⟨c1, c2⟩ := hW.rng _ (List.getElem_mem hil)
      obtain ⟨a, t, rfl, ha, ht⟩ := hp i x _ hxi hc'
      walk_at "vc"
      have hg : l.getD i 0 = l[i] := by rw [List.getD_eq_getElem?_getD, hc']; rfl
      have hcell : (cs.map V.int)[l[i] - 97]? = some (V.int (cs.getD (l[i] - 97) 0)) := by
        have hk : l[i] - 97 < cs.length := by rw [hc.len]; omega
        rw [List.getElem?_map, List.getD_eq_getElem?_getD, List.getElem?_eq_getElem hk]
        rfl
      have hcnt : ∀ m : List Nat, ((cnts m n).map V.int)[l[i] - 97]? = some (V.int (m.count l[i] : Nat)) := fun m => by
        rw [List.getElem?_map, cnts_at (by omega), show 97 + (l[i] - 97) = l[i] by omega]
        rfl
      have hlt : (l.take i).count l[i] < l.count l[i] := cnt_lt hil
      obtain ⟨k0, k1⟩ := keyN_bound l cs i
      have hW240 := hW.le
      refine ⟨_, sqT_of ha, rfl, _, _, rfl, _, _, rfl, rfl, ?_, _, _, rfl, hs.sqT hce, _, at_nat rfl hcell, _, _, rfl, hs.sqT hsh, _, at_nat rfl (hcnt l), t, rfl, _, _, rfl, sqT_of ht, _, at_nat rfl (hcnt _), _, rfl, _, rfl, _, rfl, l.count l[i] - (l.take i).count l[i] - 1, by omega, by decide, ?_, _, rfl⟩
      · exact mulx_of (a := 240) (b := 2) k0 (lt_pow k1 (by omega)) (by decide) (by decide) (by decide)
      · rw [keyN, hg]
    · rintro σ' H' ⟨y4, y5, rfl, rfl⟩
      walk_at "vc"
      rw [hx]
      exact q _ hs)

def sp_is_int : Sp := fun vs H Q _ => ∃ i : Int, vs = [.int i] ∧ Q (.bl true) H
theorem O_is_int (T : Txt K mg) : Ok P w K mg base CX0 1 "is_int" ["value"] sp_is_int :=
  Ok.mk0 T.f_is_int T.g_is_int sc_is_int (by rintro vs H Q E ⟨_, rfl, _⟩; rfl) (fun _ _ _ _ _ _ us hl => match us, hl with | [_], _ => rfl) (fun f cdv A outer s H vs Q E hr h => by
    obtain ⟨i, rfl, q⟩ := h
    refine ⟨_, (pss_one (ps_ret (pe_and (pe_callB (isi K) (by rfl) T.n_isinstance (by decide +kernel) (pa_cons (pv 0) (pa_cons (pe_bltn (v := .ty "int") rfl T.n_int (by decide +kernel) rfl) pa_nil))) (pe_one (pe_not (pe_callB (isi K) (by rfl) T.n_isinstance (by decide +kernel) (pa_cons (pv 0) (pa_cons (pe_bltn (v := .ty "bool") rfl T.n_bool (by decide +kernel) rfl) pa_nil)))))))), ?_⟩
    walk_at "vc"
    exact q)

def sp_is_cell (K : PySem.W.Frag) : Sp := fun vs H Q _ => ∃ (l : List Nat) (n : Nat) (sh ce : Addr) (cs : List Int), vs = [.ref sh, .ref ce] ∧ WOk l n ∧ H sh = some (.tup ((cnts l n).map V.int)) ∧ H ce = some (.tup (cs.map V.int)) ∧ CellOk l n cs ∧ ∀ H', Same H H' → Q (.bl true) H'
theorem O_is_cell (T : Txt K mg) : Ok P w K mg base CX0 2 "is_cell" ["shape", "value"] (sp_is_cell K) :=
  Ok.mk0 T.f_is_cell T.g_is_cell sc_is_cell (by rintro vs H Q E ⟨_, _, _, _, _, rfl, _⟩; rfl) (fun _ _ _ _ _ _ us hl => match us, hl with | [_, _], _ => rfl) (fun f cdv A outer s H vs Q E hr h => by
    obtain ⟨l, n, sh, ce, cs, rfl, hW, hsh, hce, hc, q⟩ := h
    refine ⟨_, (pss_cons (ps_if (PW.pt (pw_or (pt_not (pt_val (pe_callB (isi K) (by rfl) T.n_isinstance (by decide +kernel) (pa_cons (pv 1) (pa_cons (pe_bltn (v := .ty "tuple") rfl T.n_tuple (by decide +kernel) rfl) pa_nil))))) (pw_or1 (pt_cmpR op_ne (pe_callB (lenU K) (by rfl) T.n_len (by decide +kernel) (pa_cons (pv 1) pa_nil)) (pe_callB (lenU K) (by rfl) T.n_len (by decide +kernel) (pa_cons (pv 0) pa_nil)) (nomark _))))) (pss_one (ps_ret pe_bl)) pss_nil)
    (pss_one (ps_ret (pe_callB (allL K) (by rfl) T.n_all (by decide +kernel) (pa_cons (pe_lc (own := [("bits", 2), ("number", 3)]) (g := (gTup K 2 (gCons (gName 2) (gCons (gName 3) gNil)))) rfl sc_is_cell.nd (piZip K T.n_zip (pa_cons (pv 0) (pa_cons (pv 1) pa_nil))) (blkOk_by (N := N_is_cell) (sc := defScope s_is_cell) (by decide +kernel)) (fun _ _ _ _ _ => (pgTup K (n := 2) (pgs_cons (pg_name (i := 2) sc_is_cell.nd rfl (.inl rfl)) (pgs_cons (pg_name (i := 3) sc_is_cell.nd rfl (.inl rfl)) pgs_nil)))) (fun _ _ _ _ _ => pts_nil) (fun _ _ _ _ _ => (pe_and (cal (O_is_int T) hr (pa_cons (pv 3) pa_nil)) (pe_and (pe_cmpR op_ge (pv 3) pe_int (nomark _)) (pe_one (pe_cmpR op_eq (pe_op op_shrN (pv 3) (pv 2)) pe_int (nomark _))))))) pa_nil))))), ?_⟩
    walk_at "vc"
    have hn : n = min ((cnts l n).map V.int).length (cs.map V.int).length := by rw [List.length_map, List.length_map, cnts_len, hc.len, Nat.min_self]
    have e1 : ((cs.map V.int).length : Int) = (((cnts l n).map V.int).length : Int) := by rw [List.length_map, List.length_map, cnts_len, hc.len]
    refine isi_tt hce (if_f rfl ⟨_, .inr ⟨_, sqT_of hce, rfl⟩, _, .inr ⟨_, sqT_of hsh, rfl⟩, if_nd (fun z => absurd e1 z) fun _ => ⟨_, _, .inr ⟨sqT_of hsh, sqT_of hce, ?_⟩⟩⟩)
    refine comp_w (walk_zipT hn) (fun D i H' => Same H H' ∧ H' D = some (.lst (List.replicate i (.bl true)))) (fun D nD => ⟨same_new nD, upd_same⟩) (fun D i H' nD hi h => ⟨sqT_of (h.1 _ _ hsh), sqT_of (h.1 _ _ hce)⟩) ?_ ?_
    · rintro D i x H' H2 nD hi ⟨hs, hD⟩ ⟨T1, x1, x2, rfl, nT, rfl, g1, g2⟩
      have hk : i < cs.length := by rw [hc.len]; exact hi
      have g1' : x1 = V.int (l.count (97 + i) : Nat) := by
        have : ((cnts l n).map V.int)[i]? = some x1 := g1
        rw [List.getElem?_map, cnts_at hi] at this
        exact (Option.some.inj this).symm
      have g2' : x2 = V.int (cs.getD i 0) := by
        have : (cs.map V.int)[i]? = some x2 := g2
        rw [List.getElem?_map, List.getElem?_eq_getElem hk] at this
        rw [← Option.some.inj this, List.getD_eq_getElem?_getD, List.getElem?_eq_getElem hk]
        rfl
      subst g1' g2'
      walk_at "vc"
      refine ⟨_, sqT_of upd_same, rfl, _, _, rfl, _, _, rfl, rfl, _, rfl, true, rfl, if_t rfl ⟨_, rfl, if_d (fun _ => ⟨_, rfl, l.count (97 + i), rfl, _, upd_new nT hD, lt_size ?_, (hs.new nT).own nD, ?_⟩) (fun z => absurd (hc.lo i hi) z)⟩⟩
      · rw [List.length_replicate]
        have := hW.n4
        omega
      · rw [upd_same, decide_eq_true (Int.ediv_eq_zero_of_lt (hc.lo i hi) (hc.hi i hi)), ← List.replicate_succ', List.replicate_succ]
    · rintro D H' nD ⟨hs, hD⟩
      refine ⟨D, List.replicate n true, rfl, sqL_of (by rw [hD, List.map_replicate]), ?_⟩
      have : (List.replicate n true).all id = true := by
        rw [List.all_eq_true]
        intro b hb
        exact (List.eq_of_mem_replicate hb)
      rw [this]
      exact q _ hs)
def sp_require_cell (K : PySem.W.Frag) : Sp := fun vs H Q _ => ∃ (l : List Nat) (n : Nat) (sh ce : Addr) (cs : List Int), vs = [.ref sh, .ref ce] ∧ WOk l n ∧ H sh = some (.tup ((cnts l n).map V.int)) ∧ H ce = some (.tup (cs.map V.int)) ∧ CellOk l n cs ∧ ∀ H', Same H H' → Q .non H'
theorem O_require_cell (T : Txt K mg) : Ok P w K mg base CX0 3 "require_cell" ["shape", "value"] (sp_require_cell K) :=
  Ok.mk0 T.f_require_cell T.g_require_cell sc_require_cell (by rintro vs H Q E ⟨_, _, _, _, _, rfl, _⟩; rfl) (fun _ _ _ _ _ _ us hl => match us, hl with | [_, _], _ => rfl) (fun f cdv A outer s H vs Q E hr h => by
    obtain ⟨l, n, sh, ce, cs, rfl, hW, hsh, hce, hc, q⟩ := h
    refine ⟨_, (pss_one (ps_if (pt_not (pt_val (cal (O_is_cell T) hr (pa_cons (pv 0) (pa_cons (pv 1) pa_nil))))) (pss_one ps_never) pss_nil)), ?_⟩
    walk_at "vc"
    exact ⟨l, n, sh, ce, cs, rfl, hW, hsh, hce, hc, fun H' hs => ⟨_, rfl, if_f rfl (q _ hs)⟩⟩)

def sp_require_weave (K : PySem.W.Frag) : Sp := fun vs H Q _ => ∃ (x : Addr) (l : List Nat) (n : Nat), vs = [.ref x] ∧ shp K H x l n ∧ Q .non H
theorem O_require_weave (T : Txt K mg) : Ok P w K mg base CX0 1 "require_weave" ["value"] (sp_require_weave K) :=
  Ok.mk0 T.f_require_weave T.g_require_weave sc_require_weave (by rintro vs H Q E ⟨_, _, _, rfl, _⟩; rfl) (fun _ _ _ _ _ _ us hl => match us, hl with | [_], _ => rfl) (fun f cdv A outer s H vs Q E hr h => by
    obtain ⟨x, l, n, rfl, ⟨dx, sh, hx, hs⟩, q⟩ := h
    refine ⟨_, (pss_one (ps_if (pt_not (pt_val (pe_callB (isi K) (by rfl) T.n_isinstance (by decide +kernel) (pa_cons (pv 0) (pa_cons (pe_glob (v := .ref (He.ga K "Weave")) rfl T.g_Weave rfl) pa_nil))))) (pss_one ps_never) pss_nil)), ?_⟩
    walk_at "vc"
    exact isi_own (T.i_Weave.ty T.k_Weave hx) kit_own (if_f rfl q))
theorem shape_do {H : Hp} {x : Addr} {l : List Nat} {n : Nat} {Q : VK} {E : XK} (h : shp K H x l n) (q : ∀ sh, H sh = some (.tup ((cnts l n).map V.int)) → Q (.ref sh) H) : ∃ dx fs, H x = some (.ins (He.ga K "Weave") dx fs) ∧ sp_Weave_shape K [.ref x] H Q E := by
  obtain ⟨dx, sh, h1, h2⟩ := id h
  exact ⟨dx, _, h1, x, l, n, rfl, h, q⟩
theorem letters_do {H : Hp} {x : Addr} {l : List Nat} {n : Nat} {Q : VK} {E : XK} (h : shp K H x l n) (q : Q (.str (sg l)) H) : ∃ dx fs, H x = some (.ins (He.ga K "Weave") dx fs) ∧ sp_Weave_letters K [.ref x] H Q E := by
  obtain ⟨dx, sh, h1, h2⟩ := id h
  exact ⟨dx, _, h1, x, l, n, rfl, h, q⟩

end
section
variable {P : Program} {w : World} {K : PySem.W.Frag} {mg : Str → Option Value} {base : Heap}
def sp__law_shape : Sp := fun vs H Q _ => ∃ (a : Addr) (m : Int) (n : Nat), vs = [.ref a, .int m] ∧ Br a n H ∧ n ≤ 2 ^ 58 ∧ 1 ≤ m ∧ m ≤ 240 ∧ ∀ p sh H', But a H H' → Br a (n + 100) H' → H p = none → H' p = some (.tup (sh.map V.int)) → ShOk sh → sh.sum ≤ m → Q (.ref p) H'
theorem O__law_shape (T : Txt K mg) : Ok P w K mg base CX0 3 "_law_shape" ["_law_brook_here", "_law_most"] sp__law_shape :=
  Ok.mk0 T.f__law_shape T.g__law_shape sc__law_shape (by rintro vs H Q E ⟨_, _, _, rfl, _⟩; rfl) (fun _ _ _ _ _ _ us hl => match us, hl with | [_, _], _ => rfl) (fun f cdv A outer s H vs Q E hr h => by
    obtain ⟨a, m, n, rfl, hB, hn, m0, m1, q⟩ := h
    refine ⟨_, (pss_cons (ps_par (i := 2) (j := 3) rfl sc__law_shape.nd rfl rfl (by decide) rfl rfl (pa_cons (pe_op op_add pe_int (cal (O__law_dip T) hr (pa_cons (pv 0) (pa_cons (pe_callB min2 (by rfl) T.n_min (by decide +kernel) (pa_cons pe_int (pa_cons (pv 1) pa_nil))) pa_nil)))) (pa_cons (pe_lst pa_nil) pa_nil)) (by rfl))
    (pss_cons (ps_for PassesOwn.never rfl (pi_range1 (by rfl) T.n_range (pa_cons (pv 2) pa_nil)) (pg_name (i := 4) sc__law_shape.nd rfl (.inl rfl)) (pss_cons (ps_set (i := 5) sc__law_shape.nd rfl (.inl rfl) (pe_op op_sub (pe_op op_sub (pv 1) (pe_callB (sumL K) (by rfl) T.n_sum (by decide +kernel) (pa_cons (pv 3) pa_nil))) (pe_op op_sub (pe_op op_sub (pv 2) (pv 4)) pe_int)))
    (pss_one (ps_expr (bmK K PySem.F.plainAttrs_list PySem.F.slot_list_append PySem.F.type_list_append mt_append (pv 3) (pa_cons (pe_op op_add pe_int (cal (O__law_dip T) hr (pa_cons (pv 0) (pa_cons (pe_callB min2 (by rfl) T.n_min (by decide +kernel) (pa_cons (pv 5) (pa_cons pe_int pa_nil))) pa_nil)))) pa_nil))))))
    (pss_one (ps_ret (pe_callTy (tupleOf K) (by rfl) T.n_tuple (by decide +kernel) (pa_cons (pv 3) pa_nil)))))), ?_⟩
    walk_at "vc"
    refine dip_do hB (by omega) (by split <;> omega) (small1000' (by split <;> omega)) fun x o x0 x1 hB3 => ⟨x, rfl, Nat.zero_le _, fun F nF => ⟨by omega, by split at x1 <;> omega, ?_⟩⟩
    have nF0 : H F = none := none_of nF
    have nFa : F ≠ a := (Br.put (a := a) (H := H) hB3).apart nF
    have x2 : 1 + x ≤ 4 ∧ 1 + x ≤ m := by split at x1 <;> omega
    have eA : (((1 + x).toNat : Nat) : Int) = 1 + x := by omega
    refine loop_r0 (fun i σ' H' => ∃ (fs : List Int) (y4 y5 : Option V), σ' = [some (.ref a), some (.int m), some (.int (1 + x)), some (.ref F), y4, y5] ∧ But a H H' ∧ Br a (n + 20 + 20 * i) H' ∧ H' F = some (.lst (fs.map V.int)) ∧ fs.length = i ∧ (∀ b ∈ fs, 1 ≤ b ∧ b ≤ 120) ∧ fs.sum + (1 + x - i) ≤ m)
      ⟨[], none, none, rfl, But.refl.at.new nF, (Br.put hB3).new nF, upd_same, rfl, (fun b hb => by cases hb), (by show (0 : Int) + _ ≤ _; omega)⟩ ?_ ?_
    · rintro i σ' H1 hi ⟨fs, y4, y5, rfl, b1, B1, hF, hl, hb, hs⟩
      walk_at "vc"
      have hi2 : (i : Int) < 1 + x := by omega
      refine ⟨F, fs, rfl, sqL_of hF, _, rfl, tyv_l hF, dip_do B1 (by omega) (by split <;> omega) (small1000' (by split <;> omega)) fun y o2 y0 y1 hB2 => ⟨y, rfl, _, upd_at nFa hF, lt_size (by rw [List.length_map]; omega), b1.at.mine nF0, ((Br.put hB2).at nFa).mono (by omega), fs ++ [1 + y], by rw [upd_same, List.map_append]; rfl, by rw [List.length_append, hl]; rfl, fun b hb2 => ?_, ?_⟩⟩
      · rcases List.mem_append.mp hb2 with h | h
        · exact hb b h
        · rw [List.mem_singleton.mp h]
          split at y1 <;> omega
      · rw [List.sum_append, List.sum_singleton]
        split at y1 <;> omega
    · rintro σ' H1 ⟨fs, y4, y5, rfl, b1, B1, hF, hl, hb, hs⟩
      walk_at "vc"
      refine ⟨_, sqL_of hF, fun p np => q p fs _ (b1.new np) ((B1.new np).mono (by omega)) (b1.fresh (B1.apart np) np) upd_same ⟨by omega, by omega, hb, by omega⟩ (by omega)⟩)

def sp__law_letters (K : PySem.W.Frag) : Sp := fun vs H Q _ => ∃ (a p : Addr) (sh : List Int) (n : Nat), vs = [.ref a, .ref p] ∧ Br a n H ∧ n ≤ 2 ^ 58 ∧ ShOk sh ∧ SqT K H p (sh.map V.int) ∧ ∀ l H', But a H H' → Br a (n + 6000) H' → WOk l sh.length → cnts l sh.length = sh → Q (.str (sg l)) H'
theorem O__law_letters (T : Txt K mg) : Ok P w K mg base CX0 3 "_law_letters" ["_law_brook_here", "_law_shape_here"] (sp__law_letters K) :=
  Ok.mk0 T.f__law_letters T.g__law_letters sc__law_letters (by rintro vs H Q E ⟨_, _, _, _, rfl, _⟩; rfl) (fun _ _ _ _ _ _ us hl => match us, hl with | [_, _], _ => rfl) (fun f cdv A outer s H vs Q E hr h => by
    obtain ⟨a, p, sh, n, rfl, hB, hn, hsh, hp, q⟩ := h
    refine ⟨_, (pss_cons (ps_par (i := 2) (j := 3) rfl sc__law_letters.nd rfl rfl (by decide) rfl rfl (pa_cons (pe_callTy (listOf K) (by rfl) T.n_list (by decide +kernel) (pa_cons (pv 1) pa_nil)) (pa_cons pe_str pa_nil)) (by rfl))
    (pss_cons (ps_par (i := 4) (j := 5) rfl sc__law_letters.nd rfl rfl (by decide) rfl rfl (pa_cons (cal (O__law_dip T) hr (pa_cons (pv 0) (pa_cons pe_int pa_nil))) (pa_cons (cal (O__law_dip T) hr (pa_cons (pv 0) (pa_cons (pe_callB (lenU K) (by rfl) T.n_len (by decide +kernel) (pa_cons (pv 1) pa_nil)) pa_nil))) pa_nil)) (by rfl))
    (pss_cons (ps_for PassesOwn.never rfl (pi_range1 (by rfl) T.n_range (pa_cons (pe_callB (sumT K) (by rfl) T.n_sum (by decide +kernel) (pa_cons (pv 1) pa_nil)) pa_nil)) (pg_name (i := 6) sc__law_letters.nd rfl (.inl rfl)) (pss_consB (ps_if (PW.pt (pw_and (pt_cmpR op_eq (pv 4) pe_int (nomark _)) (pw_and1 (pt_cmpR op_gt (pe_ix (ixL K) (pv 2) (pv 5) (fun _ _ => rfl)) pe_int (nomark _))))) (pss_one (ps_set (i := 5) sc__law_letters.nd rfl (.inl rfl) (pe_op op_add (pv 5) pe_int))) (pss_one (ps_if (pt_cmpR op_eq (pv 4) pe_int (nomark _)) (pss_one (ps_set (i := 5) sc__law_letters.nd rfl (.inl rfl) (pe_op op_mod (pe_op op_add (pv 5) pe_int) (pe_callB (lenU K) (by rfl) T.n_len (by decide +kernel) (pa_cons (pv 2) pa_nil))))) (pss_one (ps_set (i := 5) sc__law_letters.nd rfl (.inl rfl) (cal (O__law_dip T) hr (pa_cons (pv 0) (pa_cons (pe_callB (lenU K) (by rfl) T.n_len (by decide +kernel) (pa_cons (pv 2) pa_nil)) pa_nil))))))))
    (pss_cons (ps_while PassesOwn.never (pt_cmpR op_eq (pe_ix (ixL K) (pv 2) (pv 5) (fun _ _ => rfl)) pe_int (nomark _)) (pss_one (ps_set (i := 5) sc__law_letters.nd rfl (.inl rfl) (pe_op op_mod (pe_op op_add (pv 5) pe_int) (pe_callB (lenU K) (by rfl) T.n_len (by decide +kernel) (pa_cons (pv 2) pa_nil))))))
    (pss_cons (ps_set (i := 3) sc__law_letters.nd rfl (.inl rfl) (pe_op op_add_str (pv 3) (pe_ix ix_str pe_str (pv 5) (fun _ _ => rfl))))
    (pss_one (ps_asg (pe_op op_sub (pe_ix (ixL K) (pv 2) (pv 5) (fun _ _ => rfl)) pe_int) (pg_sub (pv 2) (pv 5) set_list)))))))
    (pss_one (ps_ret (pv 3)))))), ?_⟩
    walk_at "vc"
    refine ⟨sh.map V.int, .inr hp, fun L nL => dip_do (hB.new nL) (by omega) (by decide) (small1000' (by decide)) fun w1 o1 w10 w11 hB1 => ⟨_, .inr ⟨_, hB.keepT (But.refl.new nL).at hp, rfl⟩, ?_⟩⟩
    rw [List.length_map]
    have hs1 := hsh.n1
    have hs4 := hsh.n4
    refine dip_do (Br.put hB1) (by omega) (by omega) (small1000' (by omega)) fun ax o2 ax0 ax1 hB2 => ⟨sh, hB.keepT (But.refl.new nL).at.at hp, ?_⟩
    have hsm := hsh.sm
    have hs0 := sumNN sh fun b hb => by have := (hsh.bt b hb).1; omega
    refine ⟨by omega, by omega, ?_⟩
    have nLa : L ≠ a := hB.apart nL
    refine loop_r0 (fun i σ' H' => ∃ (l : List Nat) (x : Nat) (y6 : Option V), σ' = [some (.ref a), some (.ref p), some (.ref L), some (.str (sg l)), some (.int w1), some (.int (x : Int)), y6] ∧ x < sh.length ∧ But a H H' ∧ Br a (n + 40 + 20 * i) H' ∧ H' L = some (.lst ((lft sh l).map V.int)) ∧ l.length = i ∧ (∀ c ∈ l, 97 ≤ c ∧ c < 97 + sh.length) ∧ (∀ k, k < sh.length → 0 ≤ (lft sh l).getD k 0))
      ⟨[], ax.toNat, none, by rw [show ((ax.toNat : Nat) : Int) = ax by omega]; rfl, by omega, ((But.refl.new nL).at).at, Br.put hB2, by rw [lft_nil]; exact upd_at nLa (upd_at nLa upd_same), rfl, (fun c hc => by cases hc), (fun k hk => by rw [lft_nil]; have := (hsh.at hk).1; omega)⟩ ?_ ?_
    · rintro i σ' H1 hi ⟨l, x, y6, rfl, hx, b1, B1, hL, hl, ha, h0⟩
      walk_at "vc"
      refine seq_by (fun σ' H' => ∃ x : Nat, x < sh.length ∧ σ' = [some (.ref a), some (.ref p), some (.ref L), some (.str (sg l)), some (.int w1), some (.int (x : Int)), some (.int (i : Int))] ∧ But a H H' ∧ Br a (n + 60 + 20 * i) H' ∧ H' L = some (.lst ((lft sh l).map V.int))) ?_ ?_
      · rintro σ' H2 ⟨x, hx, rfl, b2, B2, hL2⟩
        walk_at "vc"
        have hsl := lft_sum ha
        obtain ⟨kk, hk1, hk2⟩ := sum_pos_ex (lft sh l) (fun z hz => by
          obtain ⟨j, hj, rfl⟩ := memG hz
          exact h0 j (by rw [lft_len] at hj; exact hj)) (by omega)
        rw [lft_len] at hk1
        refine ⟨fun m σ' H' => ∃ x : Nat, x < sh.length ∧ σ' = [some (.ref a), some (.ref p), some (.ref L), some (.str (sg l)), some (.int w1), some (.int (x : Int)), some (.int (i : Int))] ∧ H' = H2 ∧ (lft sh l).getD ((x + m) % sh.length) 0 ≠ 0,
          ⟨kk + sh.length - x, x, hx, rfl, rfl, by rw [show x + (kk + sh.length - x) = kk + sh.length by omega, Nat.add_mod_right, Nat.mod_eq_of_lt hk1]; omega⟩, ?_⟩
        rintro m σ' H' ⟨x, hx, rfl, rfl, hm⟩
        walk_at "vc"
        refine ⟨_, sqL_of hL2, _, at_nat rfl (ints_at (by rw [lft_len]; exact hx)), rfl, if_d (fun e => ?_) (fun e => ?_)⟩
        · have e0 := V.int.inj e
          have m0 : m ≠ 0 := fun z => hm (by rw [z, Nat.add_zero, Nat.mod_eq_of_lt hx]; exact e0)
          refine ⟨_, fun _ _ h => h, _, .inl ⟨_, sqL_of hL2, rfl⟩, by rw [List.length_map, lft_len]; omega, m - 1, by omega, (x + 1) % sh.length, Nat.mod_lt _ (by omega), by rw [List.length_map, lft_len]; rfl, rfl, ?_⟩
          rw [Nat.mod_add_mod, show x + 1 + (m - 1) = x + m by omega]
          exact hm
        · have hx0 : (lft sh l).getD x 0 ≠ 0 := fun z => e (by rw [z])
          have hx1 := h0 x hx
          have ix : ixN ((lft sh l).map V.int).length (x : Int) = some x := by
            unfold ixN
            rw [List.length_map, lft_len, if_pos (by omega), if_pos (by omega), Int.toNat_natCast]
          have sz : (sg l).length + 1 ≤ sizeLine := le_size (by rw [sg_len]; omega)
          refine ⟨le_size (by decide), _, at_nat rfl (by rw [Array.getElem?_toList]; exact abcd_get (by omega)), sz, _, sqL_of hL2, _, at_nat rfl (ints_at (by rw [lft_len]; exact hx)), _, rfl, _, hL2, _, ix, l ++ [97 + x], sg_app _ _, x, rfl, hx, b2.mine nL, (B2.at nLa).mono (by omega), by rw [upd_same, lft_snoc hx, List.map_set], by rw [List.length_append, hl]; rfl, fun c hc => ?_, fun k hk => ?_⟩
          · rcases List.mem_append.mp hc with h | h
            · exact ha c h
            · rw [List.mem_singleton.mp h]
              omega
          · rw [lft_snoc hx]
            by_cases ek : k = x
            · rw [ek, List.getD_eq_getElem?_getD, List.getElem?_set_self (by rw [lft_len]; exact hx)]
              show 0 ≤ (lft sh l).getD x 0 - 1
              omega
            · rw [List.getD_eq_getElem?_getD, List.getElem?_set_ne (Ne.symm ek), ← List.getD_eq_getElem?_getD]
              exact h0 k hk
      · intro k hk
        walk_at "vc"
        have way1 : ∃ x_1, ((∃ xs, SqL K H1 L xs ∧ x_1 = xs.length) ∨ ∃ xs, SqT K H1 L xs ∧ x_1 = xs.length) ∧ 0 < (x_1 : Int) ∧ k [some (V.ref a), some (V.ref p), some (V.ref L), some (V.str (sg l)), some (V.int w1), some (V.int (((x : Int) + 1) % (x_1 : Int))), some (V.int (i : Int))] H1 := by
          refine ⟨_, .inl ⟨_, sqL_of hL, rfl⟩, by rw [List.length_map, lft_len]; omega, ?_⟩
          rw [List.length_map, lft_len]
          exact hk _ _ ⟨(x + 1) % sh.length, Nat.mod_lt _ (by omega), rfl, b1, B1.mono (by omega), hL⟩
        have way2 : ∃ x, ((∃ xs, SqL K H1 L xs ∧ x = xs.length) ∨ ∃ xs, SqT K H1 L xs ∧ x = xs.length) ∧ sp__law_dip [V.ref a, V.int (x : Int)] H1 (fun x H1 => k [some (V.ref a), some (V.ref p), some (V.ref L), some (V.str (sg l)), some (V.int w1), some x, some (V.int (i : Int))] H1) E0 := by
          refine ⟨_, .inl ⟨_, sqL_of hL, rfl⟩, ?_⟩
          rw [List.length_map, lft_len]
          exact dip_do B1 (by omega) (by omega) (small1000' (by omega)) fun y o3 y0 y1 hB3 => hk _ _ ⟨y.toNat, by omega, by rw [show ((y.toNat : Nat) : Int) = y by omega], b1.at, (Br.put hB3).mono (by omega), upd_at nLa hL⟩
        refine if_d (fun e => ⟨_, sqL_of hL, _, at_nat rfl (ints_at (by rw [lft_len]; exact hx)), _, rfl, if_d (fun _ => ?_) (fun _ => if_d (fun _ => way1) fun _ => way2)⟩) (fun _ => if_d (fun _ => way1) fun _ => way2)
        rw [Int.add_zero]
        exact hk _ _ ⟨x, hx, rfl, b1, B1.mono (by omega), hL⟩
    · rintro σ' H1 ⟨l, x, y6, rfl, hx, b1, B1, hL, hl, ha, h0⟩
      walk_at "vc"
      have e := lft_done hsh ha (by rw [hl]; omega) h0
      exact q l H1 b1 (B1.mono (by omega)) e.1 e.2)

def sp__law_cell (K : PySem.W.Frag) : Sp := fun vs H Q _ => ∃ (a p : Addr) (sh : List Int) (n : Nat), vs = [.ref a, .ref p] ∧ Br a n H ∧ n ≤ 2 ^ 58 ∧ ShOk sh ∧ SqT K H p (sh.map V.int) ∧ ∀ (ce : Addr) (cs : List Int) (H' : Hp), But a H H' → Br a (n + 300) H' → H ce = none → H' ce = some (.tup (cs.map V.int)) → cs.length = sh.length → (∀ k, k < sh.length → 0 ≤ cs.getD k 0 ∧ cs.getD k 0 < 2 ^ (sh.getD k 0).toNat) → Q (.ref ce) H'
theorem O__law_cell (T : Txt K mg) : Ok P w K mg base CX0 3 "_law_cell" ["_law_brook_here", "_law_shape_here"] (sp__law_cell K) :=
  Ok.mk0 T.f__law_cell T.g__law_cell sc__law_cell (by rintro vs H Q E ⟨_, _, _, _, rfl, _⟩; rfl) (fun _ _ _ _ _ _ us hl => match us, hl with | [_, _], _ => rfl) (fun f cdv A outer s H vs Q E hr h => by
    obtain ⟨a, p, sh, n, rfl, hB, hn, hsh, hp, q⟩ := h
    refine ⟨_, (pss_cons (ps_set (i := 2) sc__law_cell.nd rfl (.inl rfl) (pe_lst pa_nil))
    (pss_cons (ps_for PassesOwn.never rfl (piT K (pv 1)) (pg_name (i := 3) sc__law_cell.nd rfl (.inl rfl)) (pss_cons (ps_set (i := 4) sc__law_cell.nd rfl (.inl rfl) (pe_op op_sub (pe_op op_oneShl pe_int (pv 3)) pe_int))
    (pss_cons (ps_set (i := 5) sc__law_cell.nd rfl (.inl rfl) (cal (O__law_dip T) hr (pa_cons (pv 0) (pa_cons (pe_op op_add (pv 4) pe_int) pa_nil))))
    (pss_one (ps_expr (bmK K PySem.F.plainAttrs_list PySem.F.slot_list_append PySem.F.type_list_append mt_append (pv 2) (pa_cons (pe_ix (ixL K) (pe_lst (pa_cons pe_int (pa_cons (pv 4) (pa_cons (pv 5) (pa_cons (pe_op op_shrN (pv 5) (cal (O__law_dip T) hr (pa_cons (pv 0) (pa_cons (pv 3) pa_nil)))) pa_nil))))) (cal (O__law_dip T) hr (pa_cons (pv 0) (pa_cons pe_int pa_nil))) (fun _ _ => rfl)) pa_nil)))))))
    (pss_one (ps_ret (pe_callTy (tupleOf K) (by rfl) T.n_tuple (by decide +kernel) (pa_cons (pv 2) pa_nil)))))), ?_⟩
    walk_at "vc"
    refine ⟨Nat.zero_le _, fun L nL => ⟨⟨_, sqT_new hp nL⟩, ?_⟩⟩
    have nLa : L ≠ a := hB.apart nL
    have hs4 := hsh.n4
    refine loop_t (xs := sh.map V.int) (fun i σ' H' => ∃ (cs : List Int) (y3 y4 y5 : Option V), σ' = [some (.ref a), some (.ref p), some (.ref L), y3, y4, y5] ∧ But a H H' ∧ Br a (n + 60 * i) H' ∧ H' L = some (.lst (cs.map V.int)) ∧ cs.length = i ∧ (∀ k, k < i → 0 ≤ cs.getD k 0 ∧ cs.getD k 0 < 2 ^ (sh.getD k 0).toNat))
      ⟨[], none, none, none, rfl, But.refl.new nL, hB.new nL, upd_same, rfl, (fun k hk => absurd hk (by omega))⟩ (by rintro i σ' H' _ ⟨_, _, _, _, _, b, _⟩; exact hB.keepT b hp) ?_ ?_
    · rintro i x σ' H1 hx ⟨cs, y3, y4, y5, rfl, b1, B1, hL, hl, hc⟩
      have hi : i < sh.length := by
        have := (List.getElem?_eq_some_iff.mp hx).1
        rw [List.length_map] at this
        exact this
      have ex : x = .int (sh.getD i 0) := Option.some.inj (hx.symm.trans (ints_at hi))
      subst ex
      obtain ⟨t0, t1⟩ := hsh.at hi
      generalize hb : (sh.getD i 0).toNat = b at *
      have eb : sh.getD i 0 = (b : Int) := by omega
      rw [eb]
      walk_at "vc"
      have pb := pow_pos' b
      refine ⟨b, rfl, by omega, dip_do B1 (by omega) (by omega) (by rw [Int.sub_add_cancel]; exact cells_bit (by omega)) fun so o1 so0 so1 hB1 => ?_⟩
      rw [Int.sub_add_cancel] at so1
      refine ⟨tyv_l (upd_at nLa hL), dip_do (Br.put hB1) (by omega) (by omega) (small1000' (by omega)) fun r o2 r0 r1 hB2 => ⟨so, rfl, r.toNat, by rw [show ((r.toNat : Nat) : Int) = r by omega], le_size (by decide), fun p2 np2 => dip_do ((Br.put hB2).new np2) (by omega) (by decide) (small1000' (by decide)) fun c o3 c0 c1 hB3 => ?_⟩⟩
      obtain ⟨v, hv, hat⟩ := atI_ints (ns := [0, 2 ^ b - 1, so, so / 2 ^ r.toNat]) (c := c) c0 c1
      have np2a := (Br.put (H := upd H1 a o1) (a := a) hB2).apart np2
      have hL3 := upd_at nLa (o := o3) (upd_new np2 (o := .lst [V.int 0, V.int (2 ^ b - 1), V.int so, V.int (so / 2 ^ r.toNat)]) (upd_at nLa (o := o2) (upd_at nLa (o := o1) hL)))
      refine ⟨_, c, rfl, sqL_of (upd_at np2a upd_same), _, hat, _, hL3, lt_size (by rw [List.length_map]; omega), (((b1.at.at.new np2).at).mine nL), ((Br.put hB3).at nLa).mono (by omega), cs ++ [v], by rw [upd_same, List.map_append]; rfl, by rw [List.length_append, hl]; rfl, fun k hk => ?_⟩
      by_cases ek : k < cs.length
      · rw [getD_snoc_lt ek]
        exact hc k (by omega)
      · have ek2 : k = i := by omega
        rw [getD_snoc_eq (by omega), ek2, hb]
        have d0 := Int.ediv_nonneg so0 (Int.le_of_lt (pow_pos' r.toNat))
        have d1 := Int.ediv_le_self (2 ^ r.toNat) so0
        simp only [List.mem_cons, List.not_mem_nil, or_false] at hv
        rcases hv with e | e | e | e <;> rw [e] <;> omega
    · rintro σ' H1 ⟨cs, y3, y4, y5, rfl, b1, B1, hL, hl, hc⟩
      walk_at "vc"
      rw [List.length_map] at *
      refine ⟨_, sqL_of hL, fun ce nce => q ce cs _ (b1.new nce) ((B1.new nce).mono (by omega)) (b1.fresh (B1.apart nce) nce) upd_same hl hc⟩)

/-! ### a key by the law's own way; a weave of letters -/
def sp__law_key (K : PySem.W.Frag) : Sp := fun vs H Q _ => ∃ (l : List Nat) (n : Nat) (p ce : Addr) (cs : List Int), vs = [.str (sg l), .ref p, .ref ce] ∧ WOk l n ∧ SqT K H p ((cnts l n).map V.int) ∧ SqT K H ce (cs.map V.int) ∧ CellOk l n cs ∧ ∀ H', Same H H' → Q (.int (keyN l cs l.length)) H'
theorem O__law_key (T : Txt K mg) : Ok P w K mg base CX0 1 "_law_key" ["_law_letters_here", "_law_shape_here", "_law_cell_here"] (sp__law_key K) :=
  Ok.mk0 T.f__law_key T.g__law_key sc__law_key (by rintro vs H Q E ⟨_, _, _, _, _, rfl, _⟩; rfl) (fun _ _ _ _ _ _ us hl => match us, hl with | [_, _, _], _ => rfl) (fun f cdv A outer s H vs Q E hr h => by
    obtain ⟨l, n, p, ce, cs, rfl, hW, hp, hce, hc, q⟩ := h
    refine ⟨_, (pss_cons (ps_par (i := 3) (j := 4) rfl sc__law_key.nd rfl rfl (by decide) rfl rfl (pa_cons (pe_callTy (listOf K) (by rfl) T.n_list (by decide +kernel) (pa_cons (pv 1) pa_nil)) (pa_cons pe_int pa_nil)) (by rfl))
    (pss_cons (ps_for PassesOwn.never rfl (pi_str (pv 0)) (pg_name (i := 5) sc__law_key.nd rfl (.inl rfl)) (pss_cons (ps_set (i := 6) sc__law_key.nd rfl (.inl rfl) (bmK K PySem.F.plainAttrs_str PySem.F.slot_str_index PySem.F.type_str_index mt_sindex pe_str (pa_cons (pv 5) pa_nil)))
    (pss_cons (ps_asg (pe_op op_sub (pe_ix (ixL K) (pv 3) (pv 6) (fun _ _ => rfl)) pe_int) (pg_sub (pv 3) (pv 6) set_list))
    (pss_one (ps_set (i := 4) sc__law_key.nd rfl (.inl rfl) (pe_op op_add (pe_op op_mulX pe_int (pv 4)) (pe_op op_mod (pe_callTy intI (by rfl) T.n_int (by decide +kernel) (pa_cons (pe_op op_shrN (pe_ix (ixT K) (pv 2) (pv 6) (fun _ _ => rfl)) (pe_ix (ixL K) (pv 3) (pv 6) (fun _ _ => rfl))) pa_nil)) pe_int)))))))
    (pss_one (ps_ret (pv 4))))), ?_⟩
    walk_at "vc"
    refine ⟨(cnts l n).map V.int, .inr hp, fun L nL => ?_⟩
    refine loop_w walk_str (fun i σ' H' => ∃ (y5 y6 : Option V), σ' = [some (.str (sg l)), some (.ref p), some (.ref ce), some (.ref L), some (.int (keyN l cs i)), y5, y6] ∧ Same H H' ∧ H' L = some (.lst ((lft (cnts l n) (l.take i)).map V.int)))
      ⟨none, none, rfl, same_new nL, by rw [List.take_zero, lft_nil]; exact upd_same⟩ (fun _ _ _ _ _ => True.intro) ?_ ?_
    · rintro i x σ' H2 H3 hi ⟨y5, y6, rfl, hs, hL⟩ ⟨rfl, c, hc', rfl⟩
      have hcl : l[i]? = some c := by
        have : (sg l).cps.toList[i]? = some c := by rw [Array.getElem?_toList]; exact hc'
        rw [sg_cps] at this
        exact this
      walk_at "vc"
      have hil := (List.getElem?_eq_some_iff.mp hcl).1
      obtain ⟨c1, c2⟩ := hW.rng c (List.mem_of_getElem? hcl)
      have hg : l.getD i 0 = c := by rw [List.getD_eq_getElem?_getD, hcl]; rfl
      have hc2 : l[i] = c := Option.some.inj ((List.getElem?_eq_getElem hil).symm.trans hcl)
      have hx : c - 97 < (cnts l n).length := by rw [cnts_len]; omega
      have hn4 := hW.n4
      have hlt : (l.take i).count c < l.count c := by
        have := cnt_lt hil
        rw [hc2] at this
        exact this
      have hv : (lft (cnts l n) (l.take i)).getD (c - 97) 0 = (l.count c : Int) - ((l.take i).count c : Nat) := by
        rw [lft_get hx, List.getD_eq_getElem?_getD, cnts_at (by omega), show 97 + (c - 97) = c by omega]
        rfl
      have ix : ixN ((lft (cnts l n) (l.take i)).map V.int).length ((c - 97 : Nat) : Int) = some (c - 97) := by
        unfold ixN
        rw [List.length_map, lft_len, if_pos (by omega), if_pos (by omega), Int.toNat_natCast]
      obtain ⟨k0, k1⟩ := keyN_bound l cs i
      have hW240 := hW.le
      refine ⟨c - 97, _, abcd_index c1 (by omega), _, sqL_of hL, _, at_nat rfl (ints_at (by rw [lft_len]; exact hx)), _, rfl, _, hL, _, ix, mulx_of (a := 2) (b := 240) (by decide) (by decide) k0 (lt_pow k1 (by omega)) (by decide), _, hs.own nL |>.sqT hce, _, at_nat rfl (ints_at (by rw [hc.len]; omega)), _, sqL_of upd_same, _, at_nat (j := c - 97) rfl (by rw [List.getElem?_set_self (by rw [List.length_map, lft_len]; exact hx)]), _, rfl, l.count c - (l.take i).count c - 1, by rw [hv]; congr 1; omega, by decide, ?_, hs.own nL, ?_⟩
      · rw [keyN, hg]
        omega
      · rw [upd_same, List.take_succ_eq_append_getElem hil, hc2, show c = 97 + (c - 97) by omega, lft_snoc hx, List.map_set, show 97 + (c - 97) - 97 = c - 97 by omega]
    · rintro σ' H2 ⟨y5, y6, rfl, hs, hL⟩
      walk_at "vc"
      rw [show (sg l).cps.size = l.length from sg_len l]
      exact q _ hs)

def sp__law_same (K : PySem.W.Frag) : Sp := fun vs H Q _ => ∃ (x y : V) (d : PyData) (h n : Nat), vs = [x, y] ∧ Dp K H x d ∧ Dp K H y d ∧ DOk h n d ∧ h ≤ 60 ∧ n ≤ 100000 ∧ Q (.bl true) H
theorem O__law_same (T : Txt K mg) : OkG P w K mg base CX0 1 "_law_same" ["_law_actual", "_law_expected"] (sp__law_same K) :=
  OkG.mk0 T.f__law_same T.g__law_same sc__law_same (by rintro vs H Q E ⟨x, y, d, h, n, rfl, _⟩; rfl) (fun _ _ _ _ _ _ us hl => match us, hl with | [_, _], _ => rfl) (fun f cdv A outer s H vs Q E hr gd h => by
    obtain ⟨x, y, d, h, n, rfl, hx, hy, hd, h1, h2, q⟩ := h
    refine ⟨_, (pss_one (ps_ret (pe_cmpR op_eq (pe_callB (reprD K hr gd) (by rfl) T.n_repr (by decide +kernel) (pa_cons (pv 0) pa_nil)) (pe_callB (reprD K hr gd) (by rfl) T.n_repr (by decide +kernel) (pa_cons (pv 1) pa_nil)) (nomark _)))), ?_⟩
    walk_at "vc"
    refine repr_do hx hd h1 h2 (repr_do hy hd h1 h2 ?_)
    walk_at "vc"
    exact q)
theorem same_do {x y : V} {d : PyData} {h n : Nat} {H : Hp} {Q : VK} {E : XK} (hx : Dp K H x d) (hy : Dp K H y d) (hd : DOk h n d) (q : Q (.bl true) H) (h1 : h ≤ 60 := by decide) (h2 : n ≤ 100000 := by decide) : sp__law_same K [x, y] H Q E :=
  ⟨x, y, d, h, n, rfl, hx, hy, hd, h1, h2, q⟩

end
section
variable {P : Program} {w : World} {K : PySem.W.Frag} {mg : Str → Option Value} {base : Heap}
/-! ### shapes that are good -/
def sp_in_range : Sp := fun vs H Q _ => ∃ i lo hi : Int, vs = [.int i, .int lo, .int hi] ∧ lo ≤ i ∧ i ≤ hi ∧ Q (.bl true) H
theorem O_in_range (T : Txt K mg) : Ok P w K mg base CX0 2 "in_range" ["value", "low", "high"] sp_in_range :=
  Ok.mk0 T.f_in_range T.g_in_range sc_in_range (by rintro vs H Q E ⟨_, _, _, rfl, _⟩; rfl) (fun _ _ _ _ _ _ us hl => match us, hl with | [_, _, _], _ => rfl) (fun f cdv A outer s H vs Q E hr h => by
    obtain ⟨i, lo, hi, rfl, h1, h2, q⟩ := h
    refine ⟨_, (pss_one (ps_ret (pe_and (cal (O_is_int T) hr (pa_cons (pv 0) pa_nil)) (pe_one (pe_chain op_le op_le (pv 1) (pv 0) (pv 2)))))), ?_⟩
    walk_at "vc"
    exact ⟨i, rfl, _, rfl, if_t rfl (if_t (decide_eq_true h1) (by rw [decide_eq_true h2]; exact q))⟩)
def sp_is_shape : Sp := fun vs H Q _ => ∃ (p : Addr) (sh : List Int), vs = [.ref p] ∧ ShOk sh ∧ H p = some (.tup (sh.map V.int)) ∧ ∀ H', Same H H' → Q (.bl true) H'
theorem O_is_shape (T : Txt K mg) : Ok P w K mg base CX0 3 "is_shape" ["value"] sp_is_shape :=
  Ok.mk0 T.f_is_shape T.g_is_shape sc_is_shape (by rintro vs H Q E ⟨_, _, rfl, _⟩; rfl) (fun _ _ _ _ _ _ us hl => match us, hl with | [_], _ => rfl) (fun f cdv A outer s H vs Q E hr h => by
    obtain ⟨p, sh, rfl, hsh, hp, q⟩ := h
    refine ⟨_, (pss_cons (ps_if (PW.pt (pw_or (pt_not (pt_val (pe_callB (isi K) (by rfl) T.n_isinstance (by decide +kernel) (pa_cons (pv 0) (pa_cons (pe_bltn (v := .ty "tuple") rfl T.n_tuple (by decide +kernel) rfl) pa_nil))))) (pw_or1 (pt_not (pt_chain op_le op_le pe_int (pe_callB (lenU K) (by rfl) T.n_len (by decide +kernel) (pa_cons (pv 0) pa_nil)) (pe_callB (lenU K) (by rfl) T.n_len (by decide +kernel) (pa_cons (pe_gstr T.c_AXES) pa_nil))))))) (pss_one (ps_ret pe_bl)) pss_nil)
    (pss_one (ps_ret (pe_and (pe_callB (allL K) (by rfl) T.n_all (by decide +kernel) (pa_cons (pe_lc (own := [("bits", 1)]) (g := (gName 1)) rfl sc_is_shape.nd (piT K (pv 0)) (blkOk_by (N := N_is_shape) (sc := defScope s_is_shape) (by decide +kernel)) (fun _ _ _ _ _ => (pg_name (i := 1) sc_is_shape.nd rfl (.inl rfl))) (fun _ _ _ _ _ => pts_nil) (fun _ _ _ _ _ => (cal (O_in_range T) hr (pa_cons (pv 1) (pa_cons pe_int (pa_cons (pe_gint T.c_MOST_BITS) pa_nil)))))) pa_nil)) (pe_one (pe_cmpR op_le (pe_callB (sumT K) (by rfl) T.n_sum (by decide +kernel) (pa_cons (pv 0) pa_nil)) (pe_gint T.c_MOST_LETTERS) (nomark _))))))), ?_⟩
    walk_at "vc"
    have e4 : (Str.ofString "abcd").length = 4 := by decide +kernel
    have n1 := hsh.n1
    have n4 := hsh.n4
    refine isi_tt hp (if_f rfl ⟨_, .inr ⟨_, sqT_of hp, rfl⟩, if_t (decide_eq_true (by rw [List.length_map]; omega)) ⟨le_size (by decide), if_nd (fun z => absurd (by rw [List.length_map, e4]; omega) z) fun _ => ⟨⟨_, sqT_of hp⟩, ?_⟩⟩⟩)
    refine comp_t (xs := sh.map V.int) (fun D i H' => Same H H' ∧ H' D = some (.lst (List.replicate i (.bl true)))) (fun D nD => ⟨same_new nD, upd_same⟩) (fun D i H' nD _ h => sqT_of (h.1 _ _ hp)) ?_ ?_
    · rintro D i x H' nD hx ⟨hs, hD⟩
      have hi : i < sh.length := by
        have := (List.getElem?_eq_some_iff.mp hx).1
        rw [List.length_map] at this
        exact this
      have ex : x = .int (sh.getD i 0) := Option.some.inj (hx.symm.trans (ints_at hi))
      subst ex
      obtain ⟨t0, t1⟩ := hsh.at hi
      walk_at "vc"
      refine ⟨_, _, _, rfl, t0, t1, _, hD, lt_size (by rw [List.length_replicate]; omega), hs.own nD, ?_⟩
      rw [upd_same, ← List.replicate_succ', List.replicate_succ]
    · rintro D H' nD ⟨hs, hD⟩
      walk_at "vc"
      refine ⟨D, List.replicate sh.length true, rfl, sqL_of (by rw [hD, List.map_replicate, List.length_map]), ?_⟩
      refine ⟨_, rfl, if_t (by rw [List.all_eq_true]; intro b hb; exact List.eq_of_mem_replicate hb) ⟨sh, sqT_of (hs _ _ hp), ?_⟩⟩
      rw [decide_eq_true hsh.sm]
      exact q _ hs)
def sp_require_shape : Sp := fun vs H Q _ => ∃ (p : Addr) (sh : List Int), vs = [.ref p] ∧ ShOk sh ∧ H p = some (.tup (sh.map V.int)) ∧ ∀ H', Same H H' → Q .non H'
theorem O_require_shape (T : Txt K mg) : Ok P w K mg base CX0 4 "require_shape" ["value"] sp_require_shape :=
  Ok.mk0 T.f_require_shape T.g_require_shape sc_require_shape (by rintro vs H Q E ⟨_, _, rfl, _⟩; rfl) (fun _ _ _ _ _ _ us hl => match us, hl with | [_], _ => rfl) (fun f cdv A outer s H vs Q E hr h => by
    obtain ⟨p, sh, rfl, hsh, hp, q⟩ := h
    refine ⟨_, (pss_one (ps_if (pt_not (pt_val (cal (O_is_shape T) hr (pa_cons (pv 0) pa_nil)))) (pss_one ps_never) pss_nil)), ?_⟩
    walk_at "vc"
    exact ⟨p, sh, rfl, hsh, hp, fun H' s => ⟨_, rfl, if_f rfl (q H' s)⟩⟩)

/-! ### parting, precedence -/
def sp_parting (K : PySem.W.Frag) : Sp := fun vs H Q _ => ∃ (x c1 c2 : Addr) (l : List Nat) (n : Nat) (cs ds : List Int), vs = [.ref x, .ref c1, .ref c2] ∧ WOk l n ∧ shp K H x l n ∧ H c1 = some (.tup (cs.map V.int)) ∧ CellOk l n cs ∧ H c2 = some (.tup (ds.map V.int)) ∧ CellOk l n ds ∧
  ∀ v H', Same H H' → (cs = ds → v = .non) → (∀ j, IsPart l.length (keyN l cs l.length) (keyN l ds l.length) j → v = .int (j : Int)) → Q v H'
theorem O_parting (T : Txt K mg) : Ok P w K mg base CX0 4 "parting" ["weave", "one", "other"] (sp_parting K) :=
  Ok.mk0 T.f_parting T.g_parting sc_parting (by rintro vs H Q E ⟨_, _, _, _, _, _, _, rfl, _⟩; rfl) (fun _ _ _ _ _ _ us hl => match us, hl with | [_, _, _], _ => rfl) (fun f cdv A outer s H vs Q E hr h => by
    obtain ⟨x, c1, c2, l, n, cs, ds, rfl, hW, hx, h1, hc1, h2, hc2, q⟩ := h
    refine ⟨_, (pss_cons (ps_expr (cal (O_require_weave T) hr (pa_cons (pv 0) pa_nil)))
    (pss_cons (ps_expr (cal (O_require_cell T) hr (pa_cons (prO (O_Weave_shape T) T.k_Weave T.p_Weave_shape hr (pv 0)) (pa_cons (pv 1) pa_nil))))
    (pss_cons (ps_expr (cal (O_require_cell T) hr (pa_cons (prO (O_Weave_shape T) T.k_Weave T.p_Weave_shape hr (pv 0)) (pa_cons (pv 2) pa_nil))))
    (pss_cons (ps_if (pt_cmpR (eqD K hr) (pv 1) (pv 2) (nomark _)) (pss_one (ps_ret pe_non)) pss_nil)
    (pss_cons (ps_set (i := 3) sc_parting.nd rfl (.inl rfl) (pe_op op_xor (cal (O_key_number T) hr (pa_cons (prO (O_Weave_letters T) T.k_Weave T.p_Weave_letters hr (pv 0)) (pa_cons (prO (O_Weave_shape T) T.k_Weave T.p_Weave_shape hr (pv 0)) (pa_cons (pv 1) pa_nil)))) (cal (O_key_number T) hr (pa_cons (prO (O_Weave_letters T) T.k_Weave T.p_Weave_letters hr (pv 0)) (pa_cons (prO (O_Weave_shape T) T.k_Weave T.p_Weave_shape hr (pv 0)) (pa_cons (pv 2) pa_nil))))))
    (pss_one (ps_ret (pe_op op_sub (pe_callB (lenU K) (by rfl) T.n_len (by decide +kernel) (pa_cons (prO (O_Weave_letters T) T.k_Weave T.p_Weave_letters hr (pv 0)) pa_nil)) (pe_bits (pv 3)))))))))), ?_⟩
    walk_at "vc"
    refine ⟨x, l, n, rfl, hx, shape_do hx fun sh hs => ⟨l, n, sh, c1, cs, rfl, hW, hs, h1, hc1, fun H1 s1 => shape_do (shp_same hx s1) fun sh hs => ⟨l, n, sh, c2, ds, rfl, hW, hs, s1 _ _ h2, hc2, fun H2 s2 => ?_⟩⟩⟩
    have s12 := s1.trans s2
    refine eqT_do (sqT_of (s12 _ _ h1)) (sqT_of (s12 _ _ h2)) ⟨_, rfl, if_d (fun e => q .non H2 s12 (fun _ => rfl) fun j hj => absurd (by rw [e]) hj.ne) (fun e => ?_)⟩
    refine letters_do (shp_same hx s12) (shape_do (shp_same hx s12) fun sh hs => ⟨l, n, sh, c1, cs, rfl, hW, sqT_of hs, sqT_of (s12 _ _ h1), hc1, fun H3 s3 => letters_do (shp_same hx (s12.trans s3)) (shape_do (shp_same hx (s12.trans s3)) fun sh hs => ⟨l, n, sh, c2, ds, rfl, hW, sqT_of hs, sqT_of ((s12.trans s3) _ _ h2), hc2, fun H4 s4 => ?_⟩)⟩)
    walk_at "vc"
    have hle := hW.le
    refine letters_do (shp_same hx ((s12.trans s3).trans s4)) ⟨l.length, ⟨le_size (by rw [sg_len]; omega), by rw [sg_len]⟩, ?_⟩
    obtain ⟨a0, a1⟩ := keyN_bound l cs l.length
    obtain ⟨b0, b1⟩ := keyN_bound l ds l.length
    have hlen : 0 < l.length := by
      have h1 := hW.lo 0 (by have := hW.n1; omega)
      have := List.count_le_length (l := l) (a := 97 + 0)
      omega
    obtain ⟨j, hj⟩ := part_ex (fun z => e (keyN_inj hc1 hc2 z)) hlen
    have hq := q (.int (j : Int)) H4 ((s12.trans s3).trans s4) (fun z => absurd z e) fun i hi => by rw [hi.uniq hj]
    obtain ⟨A, hA⟩ := Int.eq_ofNat_of_zero_le a0
    obtain ⟨B, hB⟩ := Int.eq_ofNat_of_zero_le b0
    rw [hA] at a1 hj ⊢
    rw [hB] at b1 hj ⊢
    have hbits := part_bits (B := Builtin.Int.intBits (Builtin.bitXor (A : Int) (B : Int))) (N := l.length) (j := j) (a := A) (b := B) (fun m => by
      rw [Bits.bitXor_pp (Int.natCast_nonneg _) (Int.natCast_nonneg _), Int.toNat_natCast, Int.toNat_natCast, PySem.intBits_le_iff, Int.natAbs_natCast]) hj (by rw [pow_nat] at a1; omega) (by rw [pow_nat] at b1; omega)
    rw [hbits]
    have := hj.lt
    rw [show (l.length : Int) - ((l.length - j : Nat) : Int) = (j : Int) by omega]
    exact hq)

end
section
variable {P : Program} {w : World} {K : PySem.W.Frag} {mg : Str → Option Value} {base : Heap}
def sp__law_weaves (K : PySem.W.Frag) (b : Nat) : Sp := fun vs H Q _ => ∃ (m : Nat) (p : Addr) (sh : List Int), m ≤ b ∧ vs = [.ref p] ∧ NN m sh ∧ sh.length ≤ 4 ∧ SqT K H p (sh.map V.int) ∧ ∀ D H', Same H H' → H' D = some (.lst ((words m sh).map fun l => V.str (sg l))) → Q (.ref D) H'
theorem O__law_weaves (T : Txt K mg) : ∀ b, b ≤ 6 → Ok P w K mg base CX0 (b + 1) "_law_weaves" ["_law_shape_here"] (sp__law_weaves K b)
  | 0, _ => Ok.mk0 T.f__law_weaves T.g__law_weaves sc__law_weaves (by rintro vs H Q E ⟨_, _, _, _, rfl, _⟩; rfl) (fun _ _ _ _ _ _ us hl => match us, hl with | [_], _ => rfl) (fun f cdv A outer s H vs Q E hr h => by
    obtain ⟨m, p, sh, hmb, rfl, hN, h4, hp, q⟩ := h
    have em : m = 0 := by omega
    subst em
    refine ⟨_, (pss_cons (ps_if (pt_cmpR op_eq (pe_callB (sumT K) (by rfl) T.n_sum (by decide +kernel) (pa_cons (pv 0) pa_nil)) pe_int (nomark _)) (pss_one (ps_ret (pe_lst (pa_cons pe_str pa_nil)))) pss_nil)
    (pss_cons (ps_set (i := 1) sc__law_weaves.nd rfl (.inl rfl) (pe_lst pa_nil))
    (pss_cons (ps_for PassesOwn.never rfl (piEnumT K T.n_enumerate (pa_cons (pv 0) pa_nil)) (pgTup K (n := 2) (pgs_cons (pg_name (i := 2) sc__law_weaves.nd rfl (.inr rfl)) (pgs_cons (pg_name (i := 3) sc__law_weaves.nd rfl (.inl rfl)) pgs_nil))) (pss_one (ps_if (pt_cmpR op_gt (pv 3) pe_int (nomark _)) (pss_cons (ps_set (i := 4) sc__law_weaves.nd rfl (.inl rfl) (pe_op (catA K) (pe_op (catA K) (pe_slice (slT K) (pv 0) po_none (po_some (pv 2))) (pe_tup (pa_cons (pe_op op_sub (pv 3) pe_int) pa_nil))) (pe_slice (slT K) (pv 0) (po_some (pe_op op_add (pv 2) pe_int)) po_none)))
    (pss_one (ps_expr (bmK K PySem.F.plainAttrs_list PySem.F.slot_list_extend PySem.F.type_list_extend mt_extend (pv 1) (pa_cons (pe_lc (own := [("_law_letters_here", 5)]) (g := (gName 5)) rfl sc__law_weaves.nd (piL K pe_dead) (blkOk_by (N := N__law_weaves) (sc := defScope s__law_weaves) (by decide +kernel)) (fun _ _ _ _ _ => (pg_name (i := 5) sc__law_weaves.nd rfl (.inl rfl))) (fun _ _ _ _ _ => pts_nil) (fun _ _ _ _ _ => (pe_op op_add_str (pe_ix ix_str pe_str (pv 2) (fun _ _ => rfl)) (pv 5)))) pa_nil))))) pss_nil)))
    (pss_one (ps_ret (pv 1)))))), ?_⟩
    walk_at "vc"
    refine ⟨sh, hp, if_t (decide_eq_true hN.sm) ⟨le_size (by decide), fun D nD => ?_⟩⟩
    refine q D _ (same_new nD) ?_
    rw [upd_same]
    rfl)
  | b + 1, hb => Ok.mk0 T.f__law_weaves T.g__law_weaves sc__law_weaves (by rintro vs H Q E ⟨_, _, _, _, rfl, _⟩; rfl) (fun _ _ _ _ _ _ us hl => match us, hl with | [_], _ => rfl) (fun f cdv A outer s H vs Q E hr h => by
    obtain ⟨m, p, sh, hmb, rfl, hN, h4, hp, q⟩ := h
    have IH := O__law_weaves T b (by omega)
    refine ⟨_, (pss_cons (ps_if (pt_cmpR op_eq (pe_callB (sumT K) (by rfl) T.n_sum (by decide +kernel) (pa_cons (pv 0) pa_nil)) pe_int (nomark _)) (pss_one (ps_ret (pe_lst (pa_cons pe_str pa_nil)))) pss_nil)
    (pss_cons (ps_set (i := 1) sc__law_weaves.nd rfl (.inl rfl) (pe_lst pa_nil))
    (pss_cons (ps_for PassesOwn.never rfl (piEnumT K T.n_enumerate (pa_cons (pv 0) pa_nil)) (pgTup K (n := 2) (pgs_cons (pg_name (i := 2) sc__law_weaves.nd rfl (.inr rfl)) (pgs_cons (pg_name (i := 3) sc__law_weaves.nd rfl (.inl rfl)) pgs_nil))) (pss_one (ps_if (pt_cmpR op_gt (pv 3) pe_int (nomark _)) (pss_cons (ps_set (i := 4) sc__law_weaves.nd rfl (.inl rfl) (pe_op (catA K) (pe_op (catA K) (pe_slice (slT K) (pv 0) po_none (po_some (pv 2))) (pe_tup (pa_cons (pe_op op_sub (pv 3) pe_int) pa_nil))) (pe_slice (slT K) (pv 0) (po_some (pe_op op_add (pv 2) pe_int)) po_none)))
    (pss_one (ps_expr (bmK K PySem.F.plainAttrs_list PySem.F.slot_list_extend PySem.F.type_list_extend mt_extend (pv 1) (pa_cons (pe_lc (own := [("_law_letters_here", 5)]) (g := (gName 5)) rfl sc__law_weaves.nd (piL K (cal IH hr (pa_cons (pv 4) pa_nil))) (blkOk_by (N := N__law_weaves) (sc := defScope s__law_weaves) (by decide +kernel)) (fun _ _ _ _ _ => (pg_name (i := 5) sc__law_weaves.nd rfl (.inl rfl))) (fun _ _ _ _ _ => pts_nil) (fun _ _ _ _ _ => (pe_op op_add_str (pe_ix ix_str pe_str (pv 2) (fun _ _ => rfl)) (pv 5)))) pa_nil))))) pss_nil)))
    (pss_one (ps_ret (pv 1)))))), ?_⟩
    walk_at "vc"
    cases m with
    | zero =>
      refine ⟨sh, hp, if_t (decide_eq_true hN.sm) ⟨le_size (by decide), fun D nD => ?_⟩⟩
      refine q D _ (same_new nD) ?_
      rw [upd_same]
      rfl
    | succ m =>
    refine ⟨sh, hp, if_d (fun e => absurd e (by rw [hN.sm]; omega)) fun _ => ⟨Nat.zero_le _, fun F nF => ⟨sh.map V.int, sqT_new hp nF, ?_⟩⟩⟩
    refine loop_w walk_enumT (fun i σ' H' => ∃ (y2 y3 y4 y5 : Option V), σ' = [some (.ref p), some (.ref F), y2, y3, y4, y5] ∧ Same H H' ∧ H' F = some (.lst (((List.range i).flatMap fun k => if 0 < sh.getD k 0 then (words m (sh.set k (sh.getD k 0 - 1))).map (fun l => (97 + k) :: l) else []).map fun l => V.str (sg l))))
      ⟨none, none, none, none, rfl, same_new nF, upd_same⟩ (fun i σ' H' _ ⟨_, _, _, _, _, s, _⟩ => s.sqT hp) ?_ ?_
    · rintro i x σ' H1 H2 hi ⟨y2, y3, y4, y5, rfl, s1, hF⟩ ⟨T1, x1, x2, rfl, nT, rfl, g1, g2⟩
      cases g1
      rw [List.length_map] at hi
      have ex : x2 = .int (sh.getD i 0) := Option.some.inj (g2.symm.trans (ints_at hi))
      subst ex
      walk_at "vc"
      refine ⟨_, sqT_of upd_same, rfl, _, _, rfl, _, _, rfl, rfl, ?_⟩
      walk_at "vc"
      have s2 := s1.new (o := .tup [V.int (i : Int), V.int (sh.getD i 0)]) nT
      have hF2 := upd_new (o := .tup [V.int (i : Int), V.int (sh.getD i 0)]) nT hF
      generalize upd H1 T1 (.tup [V.int (i : Int), V.int (sh.getD i 0)]) = H2 at *
      refine if_d (fun hpos => ?_) (fun hz => ⟨s2, ?_⟩)
      · refine put_do (s2.sqT hp) (by rw [List.length_map]; exact hi) (by rw [List.length_map]; omega) fun r H3 s3 hr3 => ?_
        rw [map_set_int] at hr3
        have s13 := s2.trans s3
        refine ⟨tyv_l (s3 _ _ hF2), m, r, _, by omega, rfl, hN.step hi hpos, by rw [List.length_set]; exact h4, sqT_of hr3, fun D H4 s4 hD => ⟨D, rfl, ⟨_, sqL_of hD⟩, ?_⟩⟩
        have hwl := words_len m (sh.set i (sh.getD i 0 - 1)) (by rw [List.length_set]; exact h4)
        have h46 : (4 : Nat) ^ m ≤ 4 ^ 5 := Nat.pow_le_pow_right (by decide) (by omega)
        have h45 : (4 : Nat) ^ 5 = 1024 := by decide
        refine comp_l (xs := (words m (sh.set i (sh.getD i 0 - 1))).map fun l => V.str (sg l)) (fun E j H' => H' = upd H4 E (.lst (((words m (sh.set i (sh.getD i 0 - 1))).take j).map fun l => V.str (sg ((97 + i) :: l))))) (fun E nE => rfl) (fun E j H' nE _ e => by rw [e]; exact sqL_of (upd_new nE hD)) ?_ ?_
        · rintro E j z H' nE hz rfl
          rw [List.getElem?_map] at hz
          obtain ⟨l, hl, rfl⟩ := Option.map_eq_some_iff.mp hz
          have hj := (List.getElem?_eq_some_iff.mp hl).1
          walk_at "vc"
          have hll := (words_ok m _ (hN.step hi hpos) l (List.mem_of_getElem? hl)).1
          refine ⟨le_size (by decide), 97 + i, at_nat rfl (by rw [Array.getElem?_toList]; exact abcd_get (by omega)), le_size (by rw [sg_len]; show 1 + _ ≤ _; omega), _, upd_same, lt_size (by rw [List.length_map, List.length_take]; omega), ?_⟩
          rw [upd_upd, List.take_succ_eq_append_getElem hj, List.map_append, Option.some.inj ((List.getElem?_eq_getElem hj).symm.trans hl)]
          show upd H4 E (.lst (_ ++ [V.str (sg [97 + i] ++ sg l)])) = _
          rw [sg_app]
          rfl
        · rintro E H' nE rfl
          rw [List.length_map, List.take_length]
          have hF4 := upd_new (o := .lst ((words m (sh.set i (sh.getD i 0 - 1))).map fun l => V.str (sg ((97 + i) :: l)))) nE (s4 _ _ (s3 _ _ hF2))
          have hsz := flatMap_len_le (fun k => if 0 < sh.getD k 0 then (words m (sh.set k (sh.getD k 0 - 1))).map (fun l => (97 + k) :: l) else []) 1024 i (fun k hk => by
            show (if 0 < sh.getD k 0 then (words m (sh.set k (sh.getD k 0 - 1))).map (fun l => (97 + k) :: l) else []).length ≤ _
            split
            · rw [List.length_map]
              have := words_len m (sh.set k (sh.getD k 0 - 1)) (by rw [List.length_set]; exact h4)
              omega
            · exact Nat.zero_le _)
          have hsz2 : i * 1024 ≤ 4 * 1024 := Nat.mul_le_mul_right _ (by omega)
          refine ⟨F, E, _, _, rfl, rfl, hF4, upd_same, le_size (by rw [List.length_map, List.length_map]; omega), ((s13.trans s4).new nE).own nF, ?_⟩
          rw [upd_same, List.range_succ, List.flatMap_append, List.map_append]
          simp only [List.flatMap_cons, List.flatMap_nil, if_pos hpos, List.append_nil, List.map_map]
          rfl
      · rw [hF2, List.range_succ, List.flatMap_append]
        simp only [List.flatMap_cons, List.flatMap_nil, if_neg hz, List.append_nil]
    · rintro σ' H1 ⟨y2, y3, y4, y5, rfl, s1, hF⟩
      walk_at "vc"
      rw [List.length_map] at hF
      exact q F H1 s1 hF)
def sp__law_beside (K : PySem.W.Frag) : Sp := fun vs H Q _ => ∃ (a p ce : Addr) (sh cs : List Int) (n : Nat), vs = [.ref a, .ref p, .ref ce] ∧ Br a n H ∧ n ≤ 2 ^ 58 ∧ ShOk sh ∧ SqT K H p (sh.map V.int) ∧ SqT K H ce (cs.map V.int) ∧ BoundC sh cs ∧ ∀ c ds H', But a H H' → Br a (n + 400) H' → H c = none → H' c = some (.tup (ds.map V.int)) → BoundC sh ds → Q (.ref c) H'
theorem O__law_beside (T : Txt K mg) : Ok P w K mg base CX0 3 "_law_beside" ["_law_brook_here", "_law_shape_here", "_law_cell_here"] (sp__law_beside K) :=
  Ok.mk0 T.f__law_beside T.g__law_beside sc__law_beside (by rintro vs H Q E ⟨_, _, _, _, _, _, rfl, _⟩; rfl) (fun _ _ _ _ _ _ us hl => match us, hl with | [_, _, _], _ => rfl) (fun f cdv A outer s H vs Q E hr h => by
    obtain ⟨a, p, ce, sh, cs, n, rfl, hB, hn, hsh, hp, hce, hc, q⟩ := h
    refine ⟨_, (pss_cons (ps_set (i := 3) sc__law_beside.nd rfl (.inl rfl) (pe_callTy (listOf K) (by rfl) T.n_list (by decide +kernel) (pa_cons (pv 2) pa_nil)))
    (pss_cons (ps_for PassesOwn.never rfl (pi_range1 (by rfl) T.n_range (pa_cons (pe_op op_add pe_int (cal (O__law_dip T) hr (pa_cons (pv 0) (pa_cons pe_int pa_nil)))) pa_nil)) (pg_name (i := 4) sc__law_beside.nd rfl (.inl rfl)) (pss_cons (ps_set (i := 5) sc__law_beside.nd rfl (.inl rfl) (cal (O__law_dip T) hr (pa_cons (pv 0) (pa_cons (pe_callB (lenU K) (by rfl) T.n_len (by decide +kernel) (pa_cons (pv 1) pa_nil)) pa_nil))))
    (pss_cons (ps_par (i := 6) (j := 7) rfl sc__law_beside.nd rfl rfl (by decide) rfl rfl (pa_cons (pe_op op_sub (pe_op op_oneShl pe_int (pe_ix (ixT K) (pv 1) (pv 5) (fun _ _ => rfl))) pe_int) (pa_cons (pe_op op_add pe_int (cal (O__law_dip T) hr (pa_cons (pv 0) (pa_cons pe_int pa_nil)))) pa_nil)) (by rfl))
    (pss_cons (ps_set (i := 8) sc__law_beside.nd rfl (.inl rfl) (pe_op op_xor (pe_ix (ixL K) (pv 3) (pv 5) (fun _ _ => rfl)) (pe_op op_oneShl pe_int (cal (O__law_dip T) hr (pa_cons (pv 0) (pa_cons (pe_ix (ixT K) (pv 1) (pv 5) (fun _ _ => rfl)) pa_nil))))))
    (pss_cons (ps_set (i := 9) sc__law_beside.nd rfl (.inl rfl) (pe_ix (ixL K) (pe_lst (pa_cons (pe_op op_add (pe_ix (ixL K) (pv 3) (pv 5) (fun _ _ => rfl)) (pv 7)) (pa_cons (pe_op op_sub (pe_ix (ixL K) (pv 3) (pv 5) (fun _ _ => rfl)) (pv 7)) (pa_cons (pv 8) pa_nil)))) (cal (O__law_dip T) hr (pa_cons (pv 0) (pa_cons pe_int pa_nil))) (fun _ _ => rfl)))
    (pss_one (ps_asg (pe_callB max2 (by rfl) T.n_max (by decide +kernel) (pa_cons pe_int (pa_cons (pe_callB min2 (by rfl) T.n_min (by decide +kernel) (pa_cons (pv 6) (pa_cons (pv 9) pa_nil))) pa_nil))) (pg_sub (pv 3) (pv 5) set_list))))))))
    (pss_one (ps_ret (pe_callTy (tupleOf K) (by rfl) T.n_tuple (by decide +kernel) (pa_cons (pv 3) pa_nil)))))), ?_⟩
    walk_at "vc"
    refine ⟨cs.map V.int, .inr hce, fun L nL => dip_do (hB.new nL) (by omega) (by decide) (small1000' (by decide)) fun t0 o1 t00 t01 hB1 => ⟨t0, rfl, by omega, by omega, ?_⟩⟩
    have nLa := hB.apart nL
    have hn1 := hsh.n1
    have hn4 := hsh.n4
    have hcl := hc.1
    refine loop_r0 (fun i σ' H' => ∃ (ds : List Int) (y4 y5 y6 y7 y8 y9 : Option V), σ' = [some (.ref a), some (.ref p), some (.ref ce), some (.ref L), y4, y5, y6, y7, y8, y9] ∧ But a H H' ∧ Br a (n + 20 + 100 * i) H' ∧ H' L = some (.lst (ds.map V.int)) ∧ BoundC sh ds)
      ⟨cs, none, none, none, none, none, none, rfl, (But.refl.new nL).at, Br.put hB1, upd_at nLa upd_same, hc⟩ ?_ ?_
    · rintro i σ' H1 hi ⟨ds, y4, y5, y6, y7, y8, y9, rfl, b1, B1, hL, hd⟩
      have hi2 : i < 2 := by omega
      walk_at "vc"
      have hp1 := hB.keepT b1 hp
      refine ⟨_, .inr ⟨_, hp1, rfl⟩, dip_do B1 (by omega) (by rw [List.length_map]; omega) (small1000' (by rw [List.length_map]; omega)) fun ax o2 ax0 ax1 hB2 => ?_⟩
      rw [List.length_map] at ax1
      obtain ⟨k, rfl⟩ := Int.eq_ofNat_of_zero_le ax0
      have hk : k < sh.length := by omega
      obtain ⟨b0, b1'⟩ := hsh.at hk
      have B2 := Br.put (a := a) (H := H1) hB2
      have b2 : But a H1 (upd H1 a o2) := But.refl.at
      have hL2 : (upd H1 a o2) L = _ := upd_at nLa hL
      generalize upd H1 a o2 = H2 at *
      have hp2 := B1.keepT b2 hp1
      have hkd : k < ds.length := by rw [hd.1]; exact hk
      obtain ⟨m, hm⟩ := Int.eq_ofNat_of_zero_le (show 0 ≤ sh.getD k 0 by omega)
      have pm := pow_pos' m
      refine ⟨_, _, rfl, hp2, _, at_nat rfl (ints_at hk), m, by rw [hm], by omega, dip_do B2 (by omega) (by decide) (small1000' (by decide)) fun t1 o3 t10 t11 hB3 => ⟨t1, rfl, ?_⟩⟩
      have B3 := Br.put (a := a) (H := H2) hB3
      have b3 : But a H2 (upd H2 a o3) := But.refl.at
      have hL3 : (upd H2 a o3) L = _ := upd_at nLa hL2
      generalize upd H2 a o3 = H3 at *
      have hp3 := B2.keepT b3 hp2
      refine ⟨_, _, rfl, sqL_of hL3, _, at_nat rfl (ints_at hkd), _, _, rfl, hp3, _, at_nat rfl (ints_at hk), dip_do B3 (by omega) (by omega) (small1000' (by omega)) fun t2 o4 t20 t21 hB4 => ⟨t2.toNat, by rw [show ((t2.toNat : Nat) : Int) = t2 by omega], by omega, _, rfl, ?_⟩⟩
      have B4 := Br.put (a := a) (H := H3) hB4
      have b4 : But a H3 (upd H3 a o4) := But.refl.at
      have hL4 : (upd H3 a o4) L = _ := upd_at nLa hL3
      generalize upd H3 a o4 = H4 at *
      refine ⟨_, _, rfl, sqL_of hL4, _, at_nat rfl (ints_at hkd), _, rfl, _, _, rfl, sqL_of hL4, _, at_nat rfl (ints_at hkd), _, rfl, le_size (by decide), fun r nr => dip_do (B4.new nr) (by omega) (by decide) (small1000' (by decide)) fun t3 o5 t30 t31 hB5 => ?_⟩
      have nra := B4.apart nr
      obtain ⟨v, hv, hat⟩ := atI_ints (ns := [ds.getD k 0 + (1 + t1), ds.getD k 0 - (1 + t1), Builtin.bitXor (ds.getD k 0) (2 ^ t2.toNat)]) (c := t3) t30 t31
      have ix : ixN (ds.map V.int).length ((k : Nat) : Int) = some k := by
        unfold ixN
        rw [List.length_map, if_pos (by omega), if_pos (by omega), Int.toNat_natCast]
      refine ⟨_, _, rfl, sqL_of (upd_at nra upd_same), _, hat, _, rfl, _, _, rfl, upd_at nLa (upd_new nr hL4), _, ix, ?_⟩
      refine ⟨((((((b1.trans b2).trans b3).trans b4).new nr).at).mine nL), ((Br.put hB5).at nLa).mono (by omega), _, by rw [upd_same, map_set_int], by rw [List.length_set]; exact hd.1, fun j hj => ?_⟩
      rw [set_getD hkd]
      by_cases e : j = k
      · rw [if_pos e, e, hm]
        show _ ∧ _ < 2 ^ m
        constructor
        · split <;> (try split) <;> omega
        · split <;> (try split) <;> omega
      · rw [if_neg e]
        exact hd.2 j hj
    · rintro σ' H1 ⟨ds, y4, y5, y6, y7, y8, y9, rfl, b1, B1, hL, hd⟩
      walk_at "vc"
      exact ⟨_, sqL_of hL, fun c nc => q c ds _ (b1.new nc) ((B1.new nc).mono (by omega)) (b1.fresh (B1.apart nc) nc) upd_same hd⟩)
def sp__law_pair (K : PySem.W.Frag) : Sp := fun vs H Q _ => ∃ (a p : Addr) (sh : List Int) (n : Nat), vs = [.ref a, .ref p] ∧ Br a n H ∧ n ≤ 2 ^ 57 ∧ ShOk sh ∧ SqT K H p (sh.map V.int) ∧ ∀ r c1 c2 cs ds H', But a H H' → Br a (n + 2000) H' → H' r = some (.tup [.ref c1, .ref c2]) → H' c1 = some (.tup (cs.map V.int)) → H' c2 = some (.tup (ds.map V.int)) → BoundC sh cs → BoundC sh ds → Q (.ref r) H'
theorem O__law_pair (T : Txt K mg) : Ok P w K mg base CX0 4 "_law_pair" ["_law_brook_here", "_law_shape_here"] (sp__law_pair K) :=
  Ok.mk0 T.f__law_pair T.g__law_pair sc__law_pair (by rintro vs H Q E ⟨_, _, _, _, rfl, _⟩; rfl) (fun _ _ _ _ _ _ us hl => match us, hl with | [_, _], _ => rfl) (fun f cdv A outer s H vs Q E hr h => by
    obtain ⟨a, p, sh, n, rfl, hB, hn, hsh, hp, q⟩ := h
    refine ⟨_, (pss_cons (ps_set (i := 2) sc__law_pair.nd rfl (.inl rfl) (cal (O__law_cell T) hr (pa_cons (pv 0) (pa_cons (pv 1) pa_nil))))
    (pss_cons (ps_par (i := 3) (j := 4) rfl sc__law_pair.nd rfl rfl (by decide) rfl rfl (pa_cons (cal (O__law_dip T) hr (pa_cons (pv 0) (pa_cons (pe_callB (lenU K) (by rfl) T.n_len (by decide +kernel) (pa_cons (pv 1) pa_nil)) pa_nil))) (pa_cons (cal (O__law_dip T) hr (pa_cons (pv 0) (pa_cons pe_int pa_nil))) pa_nil)) (by rfl))
    (pss_cons (ps_set (i := 5) sc__law_pair.nd rfl (.inl rfl) (cal (O__law_cell T) hr (pa_cons (pv 0) (pa_cons (pv 1) pa_nil))))
    (pss_consB (ps_if (pt_cmpR op_eq (pv 4) pe_int (nomark _)) (pss_one (ps_set (i := 5) sc__law_pair.nd rfl (.inl rfl) (pe_op (catA K) (pe_op (catA K) (pe_slice (slT K) (pv 2) po_none (po_some (pv 3))) (pe_tup (pa_cons (pe_ix (ixT K) (pv 5) (pv 3) (fun _ _ => rfl)) pa_nil))) (pe_slice (slT K) (pv 2) (po_some (pe_op op_add (pv 3) pe_int)) po_none)))) pss_nil)
    (pss_consB (ps_if (pt_cmpR op_eq (pv 4) pe_int (nomark _)) (pss_one (ps_set (i := 5) sc__law_pair.nd rfl (.inl rfl) (pe_callTy (tupleOf K) (by rfl) T.n_tuple (by decide +kernel) (pa_cons (pe_lc (own := [("_law_number", 6), ("_law_later", 7)]) (g := (gTup K 2 (gCons (gName 6) (gCons (gName 7) gNil)))) rfl sc__law_pair.nd (piZip K T.n_zip (pa_cons (pv 2) (pa_cons (pv 5) pa_nil))) (blkOk_by (N := N__law_pair) (sc := defScope s__law_pair) (by decide +kernel)) (fun _ _ _ _ _ => (pgTup K (n := 2) (pgs_cons (pg_name (i := 6) sc__law_pair.nd rfl (.inl rfl)) (pgs_cons (pg_name (i := 7) sc__law_pair.nd rfl (.inl rfl)) pgs_nil)))) (fun _ _ _ _ _ => pts_nil) (fun _ _ _ _ _ => (pe_callB max2 (by rfl) T.n_max (by decide +kernel) (pa_cons (pv 6) (pa_cons (pv 7) pa_nil))))) pa_nil)))) pss_nil)
    (pss_consB (ps_if (pt_cmpR op_gt (pv 4) pe_int (nomark _)) (pss_one (ps_set (i := 5) sc__law_pair.nd rfl (.inl rfl) (cal (O__law_beside T) hr (pa_cons (pv 0) (pa_cons (pv 1) (pa_cons (pv 2) pa_nil)))))) pss_nil)
    (pss_one (ps_ret (pe_tup (pa_cons (pv 2) (pa_cons (pe_ifExp (pt_cmpR op_eq (cal (O__law_dip T) hr (pa_cons (pv 0) (pa_cons pe_int pa_nil))) pe_int (nomark _)) (pv 2) (pv 5)) pa_nil))))))))))), ?_⟩
    walk_at "vc"
    have hn1 := hsh.n1
    have hn4 := hsh.n4
    refine ⟨a, p, sh, n, rfl, hB, by omega, hsh, hp, fun c1 cs H1 b1 B1 nc1 hc1 l1 h1 => ⟨_, .inr ⟨_, hB.keepT b1 hp, rfl⟩, ?_⟩⟩
    rw [List.length_map]
    refine dip_do B1 (by omega) (by omega) (small1000' (by omega)) fun ax o2 ax0 ax1 hB2 => dip_do (Br.put hB2) (by omega) (by decide) (small1000' (by decide)) fun wy o3 wy0 wy1 hB3 => ?_
    have B3 := Br.put (a := a) (H := upd H1 a o2) hB3
    have b3 : But a H1 (upd (upd H1 a o2) a o3) := But.refl.at.at
    generalize upd (upd H1 a o2) a o3 = H3 at *
    have hp3 := B1.keepT b3 (hB.keepT b1 hp)
    have hc13 := B1.keep b3 hc1
    refine ⟨a, p, sh, _, rfl, B3, by omega, hsh, hp3, fun c2 ds H4 b4 B4 nc2 hc2 l2 h2 => ?_⟩
    have hc14 := B3.keep b4 hc13
    have hp4 := B3.keepT b4 hp3
    have b04 := (b1.trans b3).trans b4
    obtain ⟨k, rfl⟩ := Int.eq_ofNat_of_zero_le ax0
    have hk : k < sh.length := by omega
    have I0 : ∀ (H' : Hp), (L2.St → Prop) → True := fun _ _ => True.intro
    refine seq_by (fun σ' H' => ∃ (c2 : Addr) (ds : List Int) (y6 y7 : Option V), σ' = [some (.ref a), some (.ref p), some (.ref c1), some (.int (k : Int)), some (.int wy), some (.ref c2), y6, y7] ∧ Same H4 H' ∧ H' c2 = some (.tup (ds.map V.int)) ∧ BoundC sh ds) ?_ ?_
    · rintro σ' H5 ⟨c2, ds, y6, y7, rfl, s5, hc2, hd⟩
      walk_at "vc"
      refine seq_by (fun σ' H' => ∃ (c2 : Addr) (ds : List Int) (y6 y7 : Option V), σ' = [some (.ref a), some (.ref p), some (.ref c1), some (.int (k : Int)), some (.int wy), some (.ref c2), y6, y7] ∧ Same H4 H' ∧ H' c2 = some (.tup (ds.map V.int)) ∧ BoundC sh ds) ?_ ?_
      · rintro σ' H6 ⟨c2, ds, y6, y7, rfl, s6, hc2, hd⟩
        walk_at "vc"
        have B6 := B4.same s6
        refine seq_by (fun σ' H' => ∃ (c2 : Addr) (ds : List Int) (y6 y7 : Option V), σ' = [some (.ref a), some (.ref p), some (.ref c1), some (.int (k : Int)), some (.int wy), some (.ref c2), y6, y7] ∧ But a H6 H' ∧ Br a (n + 1500) H' ∧ H' c2 = some (.tup (ds.map V.int)) ∧ BoundC sh ds) ?_ ?_
        · rintro σ' H7 ⟨c2, ds, y6, y7, rfl, b7, B7, hc2, hd⟩
          walk_at "vc"
          have hc17 := B6.keep b7 (s6 _ _ hc14)
          have b07 := (b04.trans (.of_same s6)).trans b7
          refine dip_do B7 (by omega) (by decide) (small1000' (by decide)) fun v o8 v0 v1 hB8 => ⟨rfl, if_d (fun _ => ⟨le_size (by decide), fun r nr => ?_⟩) (fun _ => ⟨le_size (by decide), fun r nr => ?_⟩)⟩
          · exact q r c1 c1 cs cs _ (b07.at.new nr) (((Br.put hB8).new nr).mono (by omega)) upd_same (upd_new nr (B7.keep (But.refl.at (o := o8)) hc17)) (upd_new nr (B7.keep (But.refl.at (o := o8)) hc17)) ⟨l1, h1⟩ ⟨l1, h1⟩
          · exact q r c1 c2 cs ds _ (b07.at.new nr) (((Br.put hB8).new nr).mono (by omega)) upd_same (upd_new nr (B7.keep (But.refl.at (o := o8)) hc17)) (upd_new nr (B7.keep (But.refl.at (o := o8)) hc2)) ⟨l1, h1⟩ hd
        · intro kk hkk
          walk_at "vc"
          refine if_d (fun _ => ?_) (fun _ => hkk _ _ ⟨c2, ds, _, _, rfl, But.refl, B6.mono (by omega), hc2, hd⟩)
          refine ⟨a, p, c1, sh, cs, _, rfl, B6, by omega, hsh, s6.sqT hp4, sqT_of (s6 _ _ hc14), ⟨l1, h1⟩, fun c3 es H7 b7 B7 nc3 hc3 he => hkk _ _ ⟨c3, es, _, _, rfl, b7, B7.mono (by omega), hc3, he⟩⟩
      · intro kk hkk
        walk_at "vc"
        refine if_d (fun _ => ?_) (fun _ => hkk _ _ ⟨c2, ds, _, _, rfl, s5, hc2, hd⟩)
        have hc15 := s5 _ _ hc14
        refine ⟨_, _, .inr ⟨sqT_of hc15, sqT_of hc2, ?_⟩⟩
        have hz : sh.length = min (cs.map V.int).length (ds.map V.int).length := by rw [List.length_map, List.length_map, l1, hd.1, Nat.min_self]
        refine comp_w (walk_zipT hz) (fun D i H' => Same H5 H' ∧ H' D = some (.lst (((List.range i).map fun j => if ds.getD j 0 > cs.getD j 0 then ds.getD j 0 else cs.getD j 0).map V.int))) (fun D nD => ⟨same_new nD, upd_same⟩) (fun D i H' nD hi h => ⟨sqT_of (h.1 _ _ hc15), sqT_of (h.1 _ _ hc2)⟩) ?_ ?_
        · rintro D i x H6 H7 nD hi ⟨s6, hD⟩ ⟨T1, x1, x2, rfl, nT, rfl, g1, g2⟩
          have e1 : x1 = .int (cs.getD i 0) := Option.some.inj (g1.symm.trans (ints_at (by rw [l1]; exact hi)))
          have e2 : x2 = .int (ds.getD i 0) := Option.some.inj (g2.symm.trans (ints_at (by rw [hd.1]; exact hi)))
          subst e1 e2
          walk_at "vc"
          refine ⟨_, sqT_of upd_same, rfl, _, _, rfl, _, _, rfl, rfl, ?_⟩
          walk_at "vc"
          refine ⟨_, upd_new nT hD, lt_size (by rw [List.length_map, List.length_map, List.length_range]; omega), (s6.new nT).own nD, ?_⟩
          rw [upd_same, List.range_succ, List.map_append, List.map_append]
          rfl
        · rintro D H6 nD ⟨s6, hD⟩
          walk_at "vc"
          refine ⟨_, sqL_of hD, fun l nl => hkk _ _ ⟨l, _, _, _, rfl, (s5.trans s6).new nl, upd_same, by rw [List.length_map, List.length_range], fun j hj => ?_⟩⟩
          have e : ((List.range sh.length).map fun j => if ds.getD j 0 > cs.getD j 0 then ds.getD j 0 else cs.getD j 0).getD j 0 = if ds.getD j 0 > cs.getD j 0 then ds.getD j 0 else cs.getD j 0 := by
            rw [List.getD_eq_getElem?_getD, List.getElem?_map, List.getElem?_range hj]
            rfl
          rw [e]
          split
          · exact hd.2 j hj
          · exact h1 j hj
    · intro kk hkk
      walk_at "vc"
      refine if_d (fun _ => ?_) (fun _ => hkk _ _ ⟨c2, ds, _, _, rfl, fun _ _ h => h, hc2, ⟨l2, h2⟩⟩)
      have hkc : k < (cs.map V.int).length := by rw [List.length_map, l1]; exact hk
      have hkd : k < ds.length := by rw [l2]; exact hk
      refine cutT_do (sqT_of hc14) hkc fun r nr => ⟨_, sqT_of (upd_new nr hc2), _, at_nat rfl (ints_at hkd), le_size (by decide), fun p1 np1 => catA2_do (upd_new np1 upd_same) upd_same (by rw [List.length_take, List.length_map, List.length_singleton]; omega) fun r2 H6 s6 h6 => ?_⟩
      have s46 := ((same_new nr).new np1).trans s6
      refine dropT_do (sqT_of (s46 _ _ hc14)) hkc fun r3 nr3 => catA2_do (upd_new nr3 h6) upd_same (by rw [List.length_append, List.length_take, List.length_drop, List.length_map, List.length_singleton]; omega) fun r4 H7 s7 h7 => hkk _ _ ⟨r4, cs.set k (ds.getD k 0), _, _, rfl, (s46.new nr3).trans s7, by rw [h7, set_parts hkc, map_set_int], by rw [List.length_set, l1], fun j hj => ?_⟩
      rw [set_getD (by rw [l1]; exact hk)]
      split
      · rename_i e
        rw [e]
        exact h2 k hk
      · exact h1 j hj)
end
section
variable {P : Program} {w : World} {K : PySem.W.Frag} {mg : Str → Option Value} {base : Heap}
def sp_precedence (K : PySem.W.Frag) : Sp := fun vs H Q _ => ∃ (p c1 c2 : Addr) (sh cs ds : List Int) (l : List Nat), vs = [.ref p, .ref c1, .ref c2] ∧ ShOk sh ∧ WOk l sh.length ∧ cnts l sh.length = sh ∧ H p = some (.tup (sh.map V.int)) ∧ H c1 = some (.tup (cs.map V.int)) ∧ BoundC sh cs ∧ H c2 = some (.tup (ds.map V.int)) ∧ BoundC sh ds ∧
  ∀ H', Same H H' → Q (.str (precS cs ds sh.length)) H'
theorem O_precedence (T : Txt K mg) : Ok P w K mg base CX0 5 "precedence" ["shape", "one", "other"] (sp_precedence K) :=
  Ok.mk0 T.f_precedence T.g_precedence sc_precedence (by rintro vs H Q E ⟨_, _, _, _, _, _, _, rfl, _⟩; rfl) (fun _ _ _ _ _ _ us hl => match us, hl with | [_, _, _], _ => rfl) (fun f cdv A outer s H vs Q E hr h => by
    obtain ⟨p, c1, c2, sh, cs, ds, l, rfl, hsh, hW, hl, hp, h1, hc1, h2, hc2, q⟩ := h
    refine ⟨_, (pss_cons (ps_expr (cal (O_require_shape T) hr (pa_cons (pv 0) pa_nil)))
    (pss_cons (ps_expr (cal (O_require_cell T) hr (pa_cons (pv 0) (pa_cons (pv 1) pa_nil))))
    (pss_cons (ps_expr (cal (O_require_cell T) hr (pa_cons (pv 0) (pa_cons (pv 2) pa_nil))))
    (pss_cons (ps_if (pt_cmpR (eqD K hr) (pv 1) (pv 2) (nomark _)) (pss_one (ps_ret pe_str)) pss_nil)
    (pss_cons (ps_set (i := 3) sc_precedence.nd rfl (.inl rfl) (pe_callB (anyL K) (by rfl) T.n_any (by decide +kernel) (pa_cons (pe_lc (own := [("number", 5), ("later", 6)]) (g := (gTup K 2 (gCons (gName 5) (gCons (gName 6) gNil)))) rfl sc_precedence.nd (piZip K T.n_zip (pa_cons (pv 1) (pa_cons (pv 2) pa_nil))) (blkOk_by (N := N_precedence) (sc := defScope s_precedence) (by decide +kernel)) (fun _ _ _ _ _ => (pgTup K (n := 2) (pgs_cons (pg_name (i := 5) sc_precedence.nd rfl (.inl rfl)) (pgs_cons (pg_name (i := 6) sc_precedence.nd rfl (.inl rfl)) pgs_nil)))) (fun _ _ _ _ _ => pts_nil) (fun _ _ _ _ _ => (pe_cmpR op_lt (pv 5) (pv 6) (nomark _)))) pa_nil)))
    (pss_cons (ps_set (i := 4) sc_precedence.nd rfl (.inl rfl) (pe_callB (anyL K) (by rfl) T.n_any (by decide +kernel) (pa_cons (pe_lc (own := [("number", 5), ("later", 6)]) (g := (gTup K 2 (gCons (gName 5) (gCons (gName 6) gNil)))) rfl sc_precedence.nd (piZip K T.n_zip (pa_cons (pv 1) (pa_cons (pv 2) pa_nil))) (blkOk_by (N := N_precedence) (sc := defScope s_precedence) (by decide +kernel)) (fun _ _ _ _ _ => (pgTup K (n := 2) (pgs_cons (pg_name (i := 5) sc_precedence.nd rfl (.inl rfl)) (pgs_cons (pg_name (i := 6) sc_precedence.nd rfl (.inl rfl)) pgs_nil)))) (fun _ _ _ _ _ => pts_nil) (fun _ _ _ _ _ => (pe_cmpR op_gt (pv 5) (pv 6) (nomark _)))) pa_nil)))
    (pss_cons (ps_if (PW.pt (pw_and (pt_val (pv 3)) (pw_and1 (pt_val (pv 4))))) (pss_one (ps_ret pe_str)) pss_nil)
    (pss_one (ps_ret (pe_ifExp (pt_val (pv 3)) pe_str pe_str)))))))))), ?_⟩
    walk_at "vc"
    have k1 := CellOk.of hl hc1
    have k2 := CellOk.of hl hc2
    refine ⟨p, sh, rfl, hsh, hp, fun H1 s1 => ⟨l, sh.length, p, c1, cs, rfl, hW, by rw [hl]; exact s1 _ _ hp, s1 _ _ h1, k1, fun H2 s2 => ⟨l, sh.length, p, c2, ds, rfl, hW, by rw [hl]; exact (s1.trans s2) _ _ hp, (s1.trans s2) _ _ h2, k2, fun H3 s3 => ?_⟩⟩⟩
    have s13 := (s1.trans s2).trans s3
    refine eqT_do (sqT_of (s13 _ _ h1)) (sqT_of (s13 _ _ h2)) ⟨_, rfl, if_d (fun e => ?_) (fun e => ?_)⟩
    · have := q H3 s13
      unfold precS at this
      rw [if_pos e] at this
      exact this
    · have hz : sh.length = min (cs.map V.int).length (ds.map V.int).length := by rw [List.length_map, List.length_map, hc1.1, hc2.1, Nat.min_self]
      refine ⟨_, _, .inr ⟨sqT_of (s13 _ _ h1), sqT_of (s13 _ _ h2), ?_⟩⟩
      have n4 := hsh.n4
      refine comp_w (walk_zipT hz) (fun D i H' => Same H3 H' ∧ H' D = some (.lst (((List.range i).map fun j => decide (cs.getD j 0 < ds.getD j 0)).map V.bl))) (fun D nD => ⟨same_new nD, upd_same⟩) (fun D i H' nD hi h => ⟨sqT_of (h.1 _ _ (s13 _ _ h1)), sqT_of (h.1 _ _ (s13 _ _ h2))⟩) ?_ ?_
      · rintro D i x H6 H7 nD hi ⟨s6, hD⟩ ⟨T1, x1, x2, rfl, nT, rfl, g1, g2⟩
        have e1 : x1 = .int (cs.getD i 0) := Option.some.inj (g1.symm.trans (ints_at (by rw [hc1.1]; exact hi)))
        have e2 : x2 = .int (ds.getD i 0) := Option.some.inj (g2.symm.trans (ints_at (by rw [hc2.1]; exact hi)))
        subst e1 e2
        walk_at "vc"
        refine ⟨_, sqT_of upd_same, rfl, _, _, rfl, _, _, rfl, rfl, ?_⟩
        walk_at "vc"
        refine ⟨_, upd_new nT hD, lt_size (by rw [List.length_map, List.length_map, List.length_range]; omega), (s6.new nT).own nD, ?_⟩
        rw [upd_same, List.range_succ, List.map_append, List.map_append]
        rfl
      · rintro D H4 nD ⟨s4, hD⟩
        have s14 := s13.trans s4
        refine ⟨D, _, rfl, sqL_of hD, ?_⟩
        walk_at "vc"
        refine ⟨_, _, .inr ⟨sqT_of (s14 _ _ h1), sqT_of (s14 _ _ h2), ?_⟩⟩
        refine comp_w (walk_zipT hz) (fun D i H' => Same H4 H' ∧ H' D = some (.lst (((List.range i).map fun j => decide (ds.getD j 0 < cs.getD j 0)).map V.bl))) (fun D nD => ⟨same_new nD, upd_same⟩) (fun D i H' nD hi h => ⟨sqT_of (h.1 _ _ (s14 _ _ h1)), sqT_of (h.1 _ _ (s14 _ _ h2))⟩) ?_ ?_
        · rintro D i x H6 H7 nD hi ⟨s6, hD⟩ ⟨T1, x1, x2, rfl, nT, rfl, g1, g2⟩
          have e1 : x1 = .int (cs.getD i 0) := Option.some.inj (g1.symm.trans (ints_at (by rw [hc1.1]; exact hi)))
          have e2 : x2 = .int (ds.getD i 0) := Option.some.inj (g2.symm.trans (ints_at (by rw [hc2.1]; exact hi)))
          subst e1 e2
          walk_at "vc"
          refine ⟨_, sqT_of upd_same, rfl, _, _, rfl, _, _, rfl, rfl, ?_⟩
          walk_at "vc"
          refine ⟨_, upd_new nT hD, lt_size (by rw [List.length_map, List.length_map, List.length_range]; omega), (s6.new nT).own nD, ?_⟩
          rw [upd_same, List.range_succ, List.map_append, List.map_append]
          rfl
        · rintro D H5 nD ⟨s5, hD5⟩
          have hq := q H5 (s14.trans s5)
          unfold precS exLt at hq
          rw [if_neg e] at hq
          refine ⟨D, _, rfl, sqL_of hD5, ?_⟩
          rw [List.any_map, List.any_map]
          simp only [Function.id_comp]
          by_cases hA : ((List.range sh.length).any fun j => decide (cs.getD j 0 < ds.getD j 0)) = true <;> by_cases hB : ((List.range sh.length).any fun j => decide (ds.getD j 0 < cs.getD j 0)) = true <;> simp only [hA, hB, and_self, and_true, and_false, true_and, false_and, if_true, if_false, Bool.false_eq_true, reduceIte, V.bl.injEq, exists_eq_left'] at hq ⊢ <;> exact hq)
theorem in_do {H : Hp} {q : Addr} {bs : List Bool} {b : Bool} {Q : VK} (h : SqL K H q (bs.map V.bl)) (k : Q (.bl (bs.any (· == b))) H) : rIn K false (.bl b) (.ref q) H Q := by
  refine ⟨q, _, rfl, .inl h, rfl, flat_bls bs, ?_⟩
  rw [inV_bls]
  exact k
theorem dp_bls {H : Hp} : ∀ bs : List Bool, DpAll K H (bs.map V.bl) (bs.map .bool)
  | [] => .nil
  | b :: bs => .cons (.bl b) (dp_bls bs)
theorem eqNil_do {H : Hp} {a b : Addr} {bs : List Bool} {Q : VK} (h1 : SqL K H a (bs.map V.bl)) (h2 : H b = some (.lst [])) (q : Q (.bl (decide (bs = []))) H) : rEqD K (.ref a) (.ref b) H Q := by
  refine ⟨_, _, .lst h1 (dp_bls _), .lst (sqL_of h2) .nil, (LOk.list (h := 0) fun d hd => by
    obtain ⟨c, _, rfl⟩ := List.mem_map.mp hd
    exact LOk.bool).shaped, rfl, ?_⟩
  cases bs with
  | nil => exact q
  | cons b bs => exact q
def dueS (T F : Bool) : Str := if T = true ∧ F = true then "sometimes" else if T = true then "always" else "never"
def sp__law_right : Sp := fun vs H Q _ => ∃ (a p : Addr) (sh : List Int) (n : Nat), vs = [.ref a, .ref p] ∧ Br a n H ∧ n ≤ 2 ^ 56 ∧ ShOk sh ∧ H p = some (.tup (sh.map V.int)) ∧ ∀ H', But a H H' → Br a (n + 10000) H' → Q (.bl true) H'
theorem O__law_right (T : Txt K mg) : OkG P w K mg base CX0 12 "_law_right" ["_law_brook_here", "_law_shape_here"] sp__law_right :=
  OkG.mk0 T.f__law_right T.g__law_right sc__law_right (by rintro vs H Q E ⟨_, _, _, _, rfl, _⟩; rfl) (fun _ _ _ _ _ _ us hl => match us, hl with | [_, _], _ => rfl) (fun f cdv A outer s H vs Q E hr gd h => by
    obtain ⟨a, p, sh, n, rfl, hB, hn, hsh, hp, q⟩ := h
    refine ⟨_, (pss_cons (ps_set (i := 2) sc__law_right.nd rfl (.inr rfl) (cal (O__law_letters T) hr (pa_cons (pv 0) (pa_cons (pv 1) pa_nil))))
    (pss_cons (ps_asg (cal (O__law_pair T) hr (pa_cons (pv 0) (pa_cons (pv 1) pa_nil))) (pgTup K (n := 2) (pgs_cons (pg_name (i := 3) sc__law_right.nd rfl (.inl rfl)) (pgs_cons (pg_name (i := 4) sc__law_right.nd rfl (.inl rfl)) pgs_nil))))
    (pss_cons (ps_setLc (i := 5) (own := [("_law_cell_here", 15)]) (g := (gName 15)) rfl sc__law_right.nd rfl rfl (sw_true rfl rfl rfl (by decide +kernel)) (piT K (pe_tup (pa_cons (pv 3) (pa_cons (pv 4) pa_nil)))) (blkOk_by (N := N__law_right) (sc := defScope s__law_right) (by decide +kernel)) (fun _ _ _ _ _ => (pg_name (i := 15) sc__law_right.nd rfl (.inl rfl))) (fun _ _ _ _ _ => pts_nil) (fun _ _ _ _ _ => (cal (O__law_key T) hr (pa_cons (pv 2) (pa_cons (pv 1) (pa_cons (pv 15) pa_nil))))))
    (pss_cons (ps_par (i := 6) (j := 7) rfl sc__law_right.nd rfl rfl (by decide) rfl rfl (pa_cons pe_non (pa_cons (pe_callB (lenU K) (by rfl) T.n_len (by decide +kernel) (pa_cons (pv 2) pa_nil)) pa_nil)) (by rfl))
    (pss_cons (ps_for PassesOwn.never rfl (pi_range1 (by rfl) T.n_range (pa_cons (pv 7) pa_nil)) (pg_name (i := 8) sc__law_right.nd rfl (.inl rfl)) (pss_one (ps_if (PW.pt (pw_and (pt_cmpR op_isN (pv 6) pe_non (nomark _)) (pw_and1 (pt_cmpR op_ne (pe_op op_shrN (pe_ix (ixL K) (pv 5) pe_int (fun _ _ => rfl)) (pe_op op_sub (pe_op op_sub (pv 7) pe_int) (pv 8))) (pe_op op_shrN (pe_ix (ixL K) (pv 5) pe_int (fun _ _ => rfl)) (pe_op op_sub (pe_op op_sub (pv 7) pe_int) (pv 8))) (nomark _))))) (pss_one (ps_set (i := 6) sc__law_right.nd rfl (.inl rfl) (pv 8))) pss_nil)))
    (pss_cons (ps_set (i := 9) sc__law_right.nd rfl (.inl rfl) (mkO (O_Weave___init__ T) T.m_Weave T.g_Weave hr (pa_cons (pv 2) pa_nil)))
    (pss_cons (ps_if (pt_not (pt_val (calG (O__law_same T) hr gd (pa_cons (pe_lst (pa_cons (cal (O_parting T) hr (pa_cons (pv 9) (pa_cons (pv 3) (pa_cons (pv 4) pa_nil)))) (pa_cons (cal (O_parting T) hr (pa_cons (pv 9) (pa_cons (pv 4) (pa_cons (pv 3) pa_nil)))) pa_nil))) (pa_cons (pe_lst (pa_cons (pv 6) (pa_cons (pv 6) pa_nil))) pa_nil))))) (pss_one (ps_ret pe_bl)) pss_nil)
    (pss_cons (ps_set (i := 10) sc__law_right.nd rfl (.inl rfl) (pe_disp (pps_cons pe_str pe_str (pps_cons pe_str pe_str (pps_cons pe_str pe_str (pps_cons pe_str pe_str pps_nil)))) rfl rfl (List.cons_ne_nil _ _) (show 4 ≤ 15 by decide)))
    (pss_cons (ps_set (i := 11) sc__law_right.nd rfl (.inl rfl) (cal (O_precedence T) hr (pa_cons (pv 1) (pa_cons (pv 3) (pa_cons (pv 4) pa_nil)))))
    (pss_cons (ps_if (pt_cmpR op_ne (cal (O_precedence T) hr (pa_cons (pv 1) (pa_cons (pv 4) (pa_cons (pv 3) pa_nil)))) (pe_dget (hu_of hr) (pv 10) (pv 11) (fun _ _ => rfl)) (nomark _)) (pss_one (ps_ret pe_bl)) pss_nil)
    (pss_cons (ps_if (pt_cmpR op_lt (pv 7) pe_int (nomark _)) (pss_cons (ps_set (i := 12) sc__law_right.nd rfl (.inl rfl) (pe_lst pa_nil))
    (pss_cons (ps_for PassesOwn.never rfl (piL K (cal (O__law_weaves T 6 (by decide)) hr (pa_cons (pv 1) pa_nil))) (pg_name (i := 13) sc__law_right.nd rfl (.inl rfl)) (pss_one (ps_expr (bmK K PySem.F.plainAttrs_list PySem.F.slot_list_append PySem.F.type_list_append mt_append (pv 12) (pa_cons (pe_cmpR op_lt (cal (O__law_key T) hr (pa_cons (pv 13) (pa_cons (pv 1) (pa_cons (pv 3) pa_nil)))) (cal (O__law_key T) hr (pa_cons (pv 13) (pa_cons (pv 1) (pa_cons (pv 4) pa_nil)))) (nomark _)) pa_nil)))))
    (pss_consB (ps_set (i := 6) sc__law_right.nd rfl (.inl rfl) (pe_ifExp (PW.pt (pw_and (pt_cmpR (inSeq K) pe_bl (pv 12) rfl) (pw_and1 (pt_cmpR (inSeq K) pe_bl (pv 12) rfl)))) pe_str (pe_ifExp (pt_cmpR (inSeq K) pe_bl (pv 12) rfl) pe_str pe_str)))
    (pss_one (ps_ret (pe_cmpR op_eq (pv 11) (pe_ifExp (pt_cmpR (eqD K hr) (pv 3) (pv 4) (nomark _)) pe_str (pv 6)) (nomark _))))))) pss_nil)
    (pss_cons (ps_setLc (i := 14) (own := [("_law_number", 16), ("_law_later", 17)]) (g := (gTup K 2 (gCons (gName 16) (gCons (gName 17) gNil)))) rfl sc__law_right.nd rfl rfl (sw_true rfl rfl rfl (by decide +kernel)) (piZipT K T.n_zip (pa_cons (pv 3) (pa_cons (pv 4) pa_nil))) (blkOk_by (N := N__law_right) (sc := defScope s__law_right) (by decide +kernel)) (fun _ _ _ _ _ => (pgTup K (n := 2) (pgs_cons (pg_name (i := 16) sc__law_right.nd rfl (.inl rfl)) (pgs_cons (pg_name (i := 17) sc__law_right.nd rfl (.inl rfl)) pgs_nil)))) (fun _ _ _ _ _ => (pts_one (pt_cmpR op_ne (pv 16) (pv 17) (nomark _)))) (fun _ _ _ _ _ => (pe_cmpR op_lt (pv 16) (pv 17) (nomark _))))
    (pss_consB (ps_set (i := 6) sc__law_right.nd rfl (.inl rfl) (pe_ifExp (PW.pt (pw_and (pt_cmpR (inSeq K) pe_bl (pv 14) rfl) (pw_and1 (pt_cmpR (inSeq K) pe_bl (pv 14) rfl)))) pe_str (pe_ifExp (pt_cmpR (inSeq K) pe_bl (pv 14) rfl) pe_str pe_str)))
    (pss_one (ps_ret (pe_cmpR op_eq (pv 11) (pe_ifExp (pt_cmpR (eqD K hr) (pv 14) (pe_lst pa_nil) (nomark _)) pe_str (pv 6)) (nomark _))))))))))))))))), ?_⟩
    walk_at "vc"
    refine ⟨a, p, sh, n, rfl, hB, by omega, hsh, sqT_of hp, fun l H1 b1 B1 hW hl => ?_⟩
    walk_at "vc"
    have hn4 := hsh.n4
    have hsm := hsh.sm
    have hs0 := sumNN sh fun b hb => by have := (hsh.bt b hb).1; omega
    have eN : (l.length : Int) = sh.sum := by rw [← hl, hW.sum]
    have hl240 := hW.le
    refine ⟨a, p, sh, _, rfl, B1, by omega, hsh, sqT_of (hB.keep b1 hp), fun r c1 c2 cs ds H2 b2 B2 hr hc1 hc2 hcs hds => ⟨r, rfl, _, sqT_of hr, rfl, _, _, rfl, _, _, rfl, rfl, le_size (by decide), fun t nt => ⟨⟨_, sqT_of upd_same⟩, ?_⟩⟩⟩
    have hp2 := B1.keep b2 (hB.keep b1 hp)
    have b02 := b1.trans b2
    have k1 := CellOk.of hl hcs
    have k2 := CellOk.of hl hds
    generalize hK1 : keyN l cs l.length = K1 at *
    generalize hK2 : keyN l ds l.length = K2 at *
    have s3 : Same H2 (upd H2 t (.tup [.ref c1, .ref c2])) := same_new nt
    have ht3 : upd H2 t (.tup [.ref c1, .ref c2]) t = _ := upd_same
    generalize upd H2 t (.tup [.ref c1, .ref c2]) = H3 at *
    refine comp_t (xs := [V.ref c1, V.ref c2]) (fun D i H' => Same H3 H' ∧ H' D = some (.lst (([K1, K2].take i).map V.int))) (fun D nD => ⟨same_new nD, upd_same⟩) (fun D i H' nD _ h => sqT_of (h.1 _ _ ht3)) ?_ ?_
    · rintro D i x H' nD hx ⟨s4, hD⟩
      have s24 := s3.trans s4
      have hpl : H' p = some (.tup ((cnts l sh.length).map V.int)) := by rw [hl]; exact s24 _ _ hp2
      walk_at "vc"
      match i, hx with
      | 0, hx =>
        cases hx
        refine ⟨l, _, p, c1, cs, rfl, hW, sqT_of hpl, sqT_of (s24 _ _ hc1), k1, fun H5 s5 => ⟨_, s5 _ _ hD, lt_size (by rw [List.length_map]; exact Nat.lt_of_le_of_lt (List.length_take_le _ _) (by decide)), (s4.trans s5).own nD, ?_⟩⟩
        rw [upd_same, hK1]
        rfl
      | 1, hx =>
        cases hx
        refine ⟨l, _, p, c2, ds, rfl, hW, sqT_of hpl, sqT_of (s24 _ _ hc2), k2, fun H5 s5 => ⟨_, s5 _ _ hD, lt_size (by rw [List.length_map]; exact Nat.lt_of_le_of_lt (List.length_take_le _ _) (by decide)), (s4.trans s5).own nD, ?_⟩⟩
        rw [upd_same, hK2]
        rfl
      | i + 2, hx => cases hx
    · rintro D H4 nD ⟨s4, hD⟩
      have s24 := s3.trans s4
      have hD2 : H4 D = some (.lst [.int K1, .int K2]) := hD
      walk_at "vc"
      rw [sg_len]
      refine ⟨le_size (by omega), by omega, by omega, ?_⟩
      refine loop_r0 (fun i σ' H' => ∃ (due : V) (y8 : Option V), σ' = [some (.ref a), some (.ref p), some (.str (sg l)), some (.ref c1), some (.ref c2), some (.ref D), some due, some (.int (l.length : Int)), y8, none, none, none, none, none, none, none, none, none] ∧ H' = H4 ∧
        ((due = .non ∧ ∀ s, s < i → K1 / 2 ^ (l.length - 1 - s) = K2 / 2 ^ (l.length - 1 - s)) ∨ ∃ j : Nat, j < i ∧ IsPart l.length K1 K2 j ∧ due = .int (j : Int)))
        ⟨.non, none, rfl, rfl, .inl ⟨rfl, fun s hs => absurd hs (by omega)⟩⟩ ?_ ?_
      · rintro i σ' H' hi ⟨due, y8, rfl, rfl, hdue⟩
        have hi2 : i < l.length := by omega
        walk_at "vc"
        rcases hdue with ⟨rfl, hall⟩ | ⟨j, hj, hpj, rfl⟩
        · refine if_t (decide_eq_true rfl) ⟨_, sqL_of hD2, _, rfl, _, rfl, l.length - 1 - i, by omega, _, sqL_of hD2, _, rfl, _, rfl, l.length - 1 - i, by omega, ?_⟩
          refine if_nd (fun hne => ⟨i, by omega, ⟨hi2, hne, hall⟩, rfl⟩) (fun heq => .inl ⟨rfl, fun s hs => ?_⟩)
          by_cases z : s = i
          · rw [z]
            exact heq
          · exact hall s (by omega)
        · exact if_f (decide_eq_false (by simp)) (.inr ⟨j, by omega, hpj, rfl⟩)
      · rintro σ' H' ⟨due, y8, rfl, rfl, hdue⟩
        have hd1 : cs = ds → due = .non := fun e => by
          rcases hdue with ⟨e1, _⟩ | ⟨j, _, hpj, _⟩
          · exact e1
          · rw [← hK1, ← hK2, e] at hpj
            exact absurd rfl hpj.ne
        have hd2 : ∀ j, IsPart l.length K1 K2 j → due = .int (j : Int) := fun j hj => by
          rcases hdue with ⟨e1, e2⟩ | ⟨i, _, hpi, e⟩
          · have h1 := hj.lt
            exact absurd (e2 j (by omega)) hj.ne
          · rw [e, hpi.uniq hj]
        walk_at "vc"
        refine weave_new hW fun x H5 s5 nx hx => ?_
        have s25 := s24.trans s5
        have due_eq : ∀ v : V, (cs = ds → v = .non) → (∀ j, IsPart l.length K1 K2 j → v = .int (j : Int)) → v = due := fun v e1 e2 => by
          by_cases e : cs = ds
          · rw [e1 e, hd1 e]
          · have hlen : 0 < l.length := by
              have h1 := hW.lo 0 (by have := hW.n1; omega)
              have := List.count_le_length (l := l) (a := 97 + 0)
              omega
            obtain ⟨j, hj⟩ := part_ex (K1 := K1) (K2 := K2) (fun z => e (keyN_inj k1 k2 (by rw [hK1, hK2]; exact z))) hlen
            rw [e2 j hj, hd2 j hj]
        obtain ⟨dd, hdd, hok⟩ : ∃ dd, (∀ H', Dp K H' due dd) ∧ DOk 0 300 dd := by
          rcases hdue with ⟨e1, _⟩ | ⟨j, hj, _, e1⟩
          · exact ⟨.none, fun H' => by rw [e1]; exact .non, DOk.none.mono (by decide) (by decide)⟩
          · have hb : ((j : Int)).natAbs < 2 ^ 100 := by
              rw [Int.natAbs_natCast]
              have h8 : (2 : Nat) ^ 8 ≤ 2 ^ 100 := Nat.pow_le_pow_right (by decide) (by decide)
              have h9 : (2 : Nat) ^ 8 = 256 := by decide
              omega
            exact ⟨.int j, fun H' => by rw [e1]; exact .int _, (DOk.int hb (by decide) (by decide)).mono (by decide) (by decide)⟩
        refine ⟨x, c1, c2, l, _, cs, ds, rfl, hW, hx, s25 _ _ hc1, k1, s25 _ _ hc2, k2, fun v1 H6 s6 e1 e2 => ?_⟩
        rw [hK1, hK2] at e2
        have := due_eq v1 e1 e2
        subst this
        have s26 := s25.trans s6
        refine ⟨x, c2, c1, l, _, ds, cs, rfl, hW, shp_same hx s6, s26 _ _ hc2, k2, s26 _ _ hc1, k1, fun v2 H7 s7 e3 e4 => ?_⟩
        rw [hK1, hK2] at e4
        have := due_eq v2 (fun z => e3 z.symm) fun j hj => e4 j hj.symm
        subst this
        have s27 := s26.trans s7
        refine ⟨le_size (by decide), fun q1 nq1 => ⟨le_size (by decide), fun q2 nq2 => ?_⟩⟩
        refine same_do (d := .list [dd, dd]) (.lst (sqL_of (upd_new nq2 upd_same)) (.cons (hdd _) (.cons (hdd _) .nil))) (.lst (sqL_of upd_same) (.cons (hdd _) (.cons (hdd _) .nil))) ((DOk.list (h := 0) (n := 300) (ds := [dd, dd]) fun d hd => by
          simp only [List.mem_cons, List.not_mem_nil, or_false, or_self] at hd
          rw [hd]
          exact hok).mono (Nat.le_refl 1) (by show 2 * _ + _ ≤ 1000; decide)) ⟨_, rfl, if_f rfl fun q3 nq3 => ?_⟩
        have s28 := ((s27.new (o := .lst [v2, v2]) nq1).new (o := .lst [v2, v2]) nq2).new (o := .dK []) nq3
        refine ⟨upd_same, [(.inr "same", .str "same"), (.inr "always", .str "never"), (.inr "never", .str "always"), (.inr "sometimes", .str "sometimes")], rfl, by decide, ?_⟩
        have s29 : Same H2 (upd (upd (upd (upd H7 q1 (.lst [v2, v2])) q2 (.lst [v2, v2])) q3 (.dK [])) q3 (.dK (mergeK [] [(.inr "same", .str "same"), (.inr "always", .str "never"), (.inr "never", .str "always"), (.inr "sometimes", .str "sometimes")]))) := by
          rw [upd_upd]
          exact ((s27.new nq1).new nq2).new nq3
        have hq3 : upd (upd (upd (upd H7 q1 (.lst [v2, v2])) q2 (.lst [v2, v2])) q3 (.dK [])) q3 (.dK (mergeK [] [(.inr "same", .str "same"), (.inr "always", .str "never"), (.inr "never", .str "always"), (.inr "sometimes", .str "sometimes")])) q3 = _ := upd_same
        generalize upd (upd (upd (upd H7 q1 (.lst [v2, v2])) q2 (.lst [v2, v2])) q3 (.dK [])) q3 (.dK (mergeK [] [(.inr "same", .str "same"), (.inr "always", .str "never"), (.inr "never", .str "always"), (.inr "sometimes", .str "sometimes")])) = H8 at *
        refine ⟨p, c1, c2, sh, cs, ds, l, rfl, hsh, hW, hl, s29 _ _ hp2, s29 _ _ hc1, hcs, s29 _ _ hc2, hds, fun H9 s9 => ?_⟩
        have s2a := s29.trans s9
        refine ⟨p, c2, c1, sh, ds, cs, l, rfl, hsh, hW, hl, s2a _ _ hp2, s2a _ _ hc2, hds, s2a _ _ hc1, hcs, fun H10 s10 => ?_⟩
        have s2b := s2a.trans s10
        have hval : valV (mergeK [] [((.inr "same" : Key), V.str "same"), (.inr "always", .str "never"), (.inr "never", .str "always"), (.inr "sometimes", .str "sometimes")]) (.inr (precS cs ds sh.length)) = some (.str (precS ds cs sh.length)) := by
          rcases prec_cases cs ds hcs.1 hds.1 with ⟨e1, e2⟩ | ⟨e1, e2⟩ | ⟨e1, e2⟩ | ⟨e1, e2⟩ <;> rw [e1, e2] <;> decide +kernel
        have hget : DGet H10 q3 (.str (precS cs ds sh.length)) (some (.str (precS ds cs sh.length))) := by
          rw [← hval]
          exact DGet.k (k := .inr (precS cs ds sh.length)) ((s9.trans s10) _ _ hq3)
        refine ⟨_, hget, rfl, if_f (by rw [decide_eq_true rfl]; rfl) ?_⟩
        have b0b := b02.trans (.of_same s2b)
        have Bb := B2.same s2b
        refine if_d (fun hsmall => ?_) (fun hbig => ?_)
        · have hNN : NN l.length sh := ⟨fun b hb => by have := (hsh.bt b hb).1; omega, by omega⟩
          refine ⟨Nat.zero_le _, fun q4 nq4 => ?_⟩
          refine ⟨l.length, p, sh, by omega, rfl, hNN, hn4, sqT_new (sqT_of (s2b _ _ hp2)) nq4, fun D2 H11 s11 hD2 => ⟨D2, rfl, ⟨_, sqL_of hD2⟩, ?_⟩⟩
          have hq4 := s11 _ _ (upd_same (H := H10) (a := q4) (o := .lst []))
          have s2c := (s2b.new (o := .lst []) nq4).trans s11
          have nD2 : D2 ≠ q4 := fun z => by
            rw [z, hq4] at hD2
            obtain ⟨w, hw⟩ := words_ne l.length sh hNN
            have e := HO.lst.inj (Option.some.inj hD2)
            rw [List.map_eq_nil_iff.mp e.symm] at hw
            cases hw
          have hwl := words_len l.length sh hn4
          have h46 : (4 : Nat) ^ l.length ≤ 4 ^ 6 := Nat.pow_le_pow_right (by decide) (by omega)
          have h45 : (4 : Nat) ^ 6 = 4096 := by decide
          refine loop_l (xs := (words l.length sh).map fun l => V.str (sg l)) (fun i σ' H' => ∃ (y13 : Option V), σ' = [some (.ref a), some (.ref p), some (.str (sg l)), some (.ref c1), some (.ref c2), some (.ref D), some v2, some (.int (l.length : Int)), y8, some (.ref x), some (.ref q3), some (.str (precS cs ds sh.length)), some (.ref q4), y13, none, none, none, none] ∧ But q4 H11 H' ∧
            H' q4 = some (.lst ((((words l.length sh).take i).map fun w => decide (keyN w cs w.length < keyN w ds w.length)).map V.bl)))
            ⟨none, rfl, But.refl, hq4⟩ (by rintro i σ' H' _ ⟨_, _, b, _⟩; exact sqL_of (b _ _ nD2 hD2)) ?_ ?_
          · rintro i z σ' H12 hz ⟨y13, rfl, b12, hq⟩
            rw [List.getElem?_map] at hz
            obtain ⟨w, hw, rfl⟩ := Option.map_eq_some_iff.mp hz
            have hi := (List.getElem?_eq_some_iff.mp hw).1
            obtain ⟨hWw, hcw⟩ := words_wok hsh hNN (List.mem_of_getElem? hw)
            have hpw : H12 p = some (.tup ((cnts w sh.length).map V.int)) := by
              rw [hcw]
              exact b12.keepT hq4 (s2c _ _ hp2)
            walk_at "vc"
            refine ⟨tyv_l hq, w, _, p, c1, cs, rfl, hWw, sqT_of hpw, sqT_of (b12.keepT hq4 (s2c _ _ hc1)), CellOk.of hcw hcs, fun H13 s13 => ?_⟩
            refine ⟨w, _, p, c2, ds, rfl, hWw, s13.sqT (sqT_of hpw), s13.sqT (sqT_of (b12.keepT hq4 (s2c _ _ hc2))), CellOk.of hcw hds, fun H14 s14 => ?_⟩
            have s24' := s13.trans s14
            refine ⟨_, rfl, _, rfl, _, s24' _ _ hq, lt_size (by rw [List.length_map, List.length_map, List.length_take]; omega), (b12.trans (.of_same s24')).at, ?_⟩
            rw [upd_same, List.take_succ_eq_append_getElem hi, List.map_append, List.map_append, Option.some.inj ((List.getElem?_eq_getElem hi).symm.trans hw)]
            rfl
          · rintro σ' H12 ⟨y13, rfl, b12, hq⟩
            walk_at "vc"
            rw [List.length_map, List.take_length] at hq
            generalize hbs : ((words l.length sh).map fun w => decide (keyN w cs w.length < keyN w ds w.length)) = bs at *
            have b2c := (b02.trans (.of_same s2c))
            have hfin : But a H H12 := fun b o nb hb => by
              have h1 := b2c b o nb hb
              refine b12 b o (fun z => ?_) h1
              have h2 := b0b b o nb hb
              rw [z, nq4] at h2
              cases h2
            have hBfin : Br a (n + 10000) H12 := by
              obtain ⟨o, h1, h2⟩ := B2.same s2c
              refine ⟨o, b12 a o (fun z => ?_) h1, h2.mono (by omega)⟩
              obtain ⟨o', h3, _⟩ := Bb
              rw [z, nq4] at h3
              cases h3
            have hc1f := b12.keepT hq4 (s2c _ _ hc1)
            have hc2f := b12.keepT hq4 (s2c _ _ hc2)
            refine seq_by (fun σ' H' => σ' = [some (.ref a), some (.ref p), some (.str (sg l)), some (.ref c1), some (.ref c2), some (.ref D), some (.str (dueS (bs.any (· == true)) (bs.any (· == false)))), some (.int (l.length : Int)), y8, some (.ref x), some (.ref q3), some (.str (precS cs ds sh.length)), some (.ref q4), y13, none, none, none, none] ∧ H' = H12) ?_ ?_
            · rintro σ' H' ⟨rfl, rfl⟩
              walk_at "vc"
              refine eqT_do (sqT_of hc1f) (sqT_of hc2f) ⟨_, rfl, if_d (fun e => ?_) (fun e => ?_)⟩
              · rw [decide_eq_true (by unfold precS; rw [if_pos e])]
                exact q _ hfin hBfin
              · rw [decide_eq_true (by
                  have hpw := prec_words hsh hNN hcs hds e
                  rw [hbs] at hpw
                  unfold precS dueS
                  rw [if_neg e, hpw.1, hpw.2])]
                exact q _ hfin hBfin
            · intro k hk
              walk_at "vc"
              refine in_do (sqL_of hq) ⟨_, rfl, ?_⟩
              cases hT : bs.any (· == true) with
              | true =>
                refine if_t rfl (in_do (sqL_of hq) ⟨_, rfl, ?_⟩)
                cases hF : bs.any (· == false) with
                | true => exact if_t rfl (hk _ _ (⟨by rw [hT, hF]; rfl, rfl⟩))
                | false => exact if_f rfl (in_do (sqL_of hq) ⟨_, rfl, if_t hT (hk _ _ (⟨by rw [hT, hF]; rfl, rfl⟩))⟩)
              | false => exact if_f rfl (in_do (sqL_of hq) ⟨_, rfl, if_f hT (hk _ _ (⟨by rw [hT]; rfl, rfl⟩))⟩)
        · have hz : sh.length = min (cs.map V.int).length (ds.map V.int).length := by rw [List.length_map, List.length_map, hcs.1, hds.1, Nat.min_self]
          have hc1b := s2b _ _ hc1
          have hc2b := s2b _ _ hc2
          refine ⟨_, sqT_of hc1b, _, sqT_of hc2b, ?_⟩
          refine comp_w (walk_zipT hz) (fun E i H' => Same H10 H' ∧ H' E = some (.lst ((signsOf cs ds i).map V.bl))) (fun E nE => ⟨same_new nE, upd_same⟩) (fun E i H' nE hi h => ⟨sqT_of (h.1 _ _ hc1b), sqT_of (h.1 _ _ hc2b)⟩) ?_ ?_
          · rintro E i z H6 H7 nE hi ⟨s6, hE⟩ ⟨T1, x1, x2, rfl, nT, rfl, g1, g2⟩
            have e1 : x1 = .int (cs.getD i 0) := Option.some.inj (g1.symm.trans (ints_at (by rw [hcs.1]; exact hi)))
            have e2 : x2 = .int (ds.getD i 0) := Option.some.inj (g2.symm.trans (ints_at (by rw [hds.1]; exact hi)))
            subst e1 e2
            walk_at "vc"
            refine ⟨_, sqT_of upd_same, rfl, _, _, rfl, _, _, rfl, rfl, ?_⟩
            walk_at "vc"
            have hsl : (signsOf cs ds i).length ≤ i := by
              unfold signsOf
              rw [List.length_map]
              exact Nat.le_trans (List.length_filter_le _ _) (by rw [List.length_range]; exact Nat.le_refl _)
            refine if_nd (fun hne => ⟨_, upd_new nT hE, lt_size (by rw [List.length_map]; omega), (s6.new nT).own nE, ?_⟩) (fun heq => ⟨s6.new nT, ?_⟩)
            · rw [upd_same, signs_snoc, if_pos hne, List.map_append]
              rfl
            · rw [upd_new nT hE, signs_snoc, if_neg (fun z => z heq)]
          · rintro E H11 nE ⟨s11, hE⟩
            walk_at "vc"
            have s2c := s2b.trans s11
            generalize hbs : signsOf cs ds sh.length = bs at *
            have hfin := b02.trans (.of_same s2c)
            have hBfin := (B2.same s2c).mono (show n + 6000 + 2000 ≤ n + 10000 by omega)
            refine seq_by (fun σ' H' => σ' = [some (.ref a), some (.ref p), some (.str (sg l)), some (.ref c1), some (.ref c2), some (.ref D), some (.str (dueS (bs.any (· == true)) (bs.any (· == false)))), some (.int (l.length : Int)), y8, some (.ref x), some (.ref q3), some (.str (precS cs ds sh.length)), none, none, some (.ref E), none, none, none] ∧ H' = H11) ?_ ?_
            · rintro σ' H' ⟨rfl, rfl⟩
              walk_at "vc"
              refine ⟨Nat.zero_le _, fun q5 nq5 => eqNil_do (sqL_of (upd_new nq5 hE)) upd_same ⟨_, rfl, ?_⟩⟩
              refine if_d (fun e => ?_) (fun e => ?_)
              · rw [decide_eq_true (by unfold precS; rw [if_pos ((signs_nil hcs.1 hds.1).mp (hbs.trans e))])]
                exact q _ (hfin.new nq5) (hBfin.new nq5)
              · have hne : cs ≠ ds := fun z => e (hbs.symm.trans ((signs_nil hcs.1 hds.1).mpr z))
                have hps := prec_signs (cs := cs) (ds := ds) (n := sh.length)
                rw [hbs] at hps
                rw [decide_eq_true (by unfold precS dueS; rw [if_neg hne, hps.1, hps.2])]
                exact q _ (hfin.new nq5) (hBfin.new nq5)
            · intro k hk
              walk_at "vc"
              refine in_do (sqL_of hE) ⟨_, rfl, ?_⟩
              cases hT : bs.any (· == true) with
              | true =>
                refine if_t rfl (in_do (sqL_of hE) ⟨_, rfl, ?_⟩)
                cases hF : bs.any (· == false) with
                | true => exact if_t rfl (hk _ _ (⟨by rw [hT, hF]; rfl, rfl⟩))
                | false => exact if_f rfl (in_do (sqL_of hE) ⟨_, rfl, if_t hT (hk _ _ (⟨by rw [hT, hF]; rfl, rfl⟩))⟩)
              | false => exact if_f rfl (in_do (sqL_of hE) ⟨_, rfl, if_f hT (hk _ _ (⟨by rw [hT]; rfl, rfl⟩))⟩))
end
section
variable {P : Program} {w : World} {K : PySem.W.Frag} {mg : Str → Option Value} {base : Heap}
theorem wok_abab : WOk [97, 98, 97, 98] 2 := ⟨by decide, by decide, by decide, by decide, fun k a b => (by decide : ∀ k, k < 4 → 2 ≤ k → [97, 98, 97, 98].count (97 + k) = 0) k b a, by decide, by decide⟩
theorem wok_a : WOk [97] 1 := ⟨by decide, by decide, by decide, by decide, fun k a b => (by decide : ∀ k, k < 4 → 1 ≤ k → [97].count (97 + k) = 0) k b a, by decide, by decide⟩
theorem round_do {p : Addr} {m : Nat} {most : Int} {H : Hp} {A B : Hp → Prop} (hB : Br p m H) (hm : m ≤ 2 ^ 55) (h1 : 1 ≤ most) (h2 : most ≤ 240) (q : ∀ H2, But p H H2 → Br p (m + 10100) H2 → B H2) :
    sp__law_shape [.ref p, .int most] H (fun x H1 => sp__law_right [.ref p, x] H1 (fun y H2 => ∃ c, y = .bl c ∧ if (!c) = true then A H2 else B H2) E0) E0 := by
  have p56 : (2 : Nat) ^ 56 = 72057594037927936 := by decide
  have p55 : (2 : Nat) ^ 55 = 36028797018963968 := by decide
  have p58 : (2 : Nat) ^ 58 = 288230376151711744 := by decide
  exact ⟨p, most, m, rfl, hB, by omega, h1, h2, fun s sh H1 b1 B1 ns hs hsh _ => ⟨p, s, sh, m + 100, rfl, B1, by omega, hsh, hs, fun H2 b2 B2 => ⟨_, rfl, if_f rfl (q H2 (b1.trans b2) (B2.mono (by omega)))⟩⟩⟩
def sp_law (K : PySem.W.Frag) : Sp := fun vs H Q _ => ∃ (a : Addr) (ns : List Int), vs = [.ref a] ∧ SqL K H a (ns.map V.int) ∧ ns.length ≤ 63 ∧ ∀ H', Q (.bl true) H'
theorem fn_law (T : Txt K mg) {fd : FuncData} (F : FunD K "law" "law" (defArgs s_law) (defBody s_law) (defScope s_law) [] [] (He.ga K "law") fd) : GFn P w K mg base CX0 16 (He.ga K "law") fd ["_law_script"] (sp_law K) :=
  gfn_of0 F sc_law (by rintro vs H Q E ⟨_, _, rfl, _⟩; rfl) (fun cdv A outer s H vs Q E hr gd h => by
    obtain ⟨a, ns, rfl, hS, hl, q⟩ := h
    refine ⟨_, (pss_cons (ps_for PassesOwn.never rfl (pi_range1 (by rfl) T.n_range (pa_cons (pe_callB max2 (by rfl) T.n_max (by decide +kernel) (pa_cons pe_int (pa_cons (pe_callB min2 (by rfl) T.n_min (by decide +kernel) (pa_cons pe_int (pa_cons (pe_callB (lenU K) (by rfl) T.n_len (by decide +kernel) (pa_cons (pv 0) pa_nil)) pa_nil))) pa_nil))) pa_nil)) (pg_name (i := 1) sc_law.nd rfl (.inl rfl)) (pss_cons (ps_set (i := 2) sc_law.nd rfl (.inl rfl) (cal (O__law_brook T) hr (pa_cons (pv 0) (pa_cons (pv 1) pa_nil))))
    (pss_one (ps_for PassesOwn.never rfl (pi_range1 (by rfl) T.n_range (pa_cons (pe_ifExp (pt_cmpR op_eq (pv 1) pe_int (nomark _)) pe_int pe_int) pa_nil)) (pg_name (i := 3) sc_law.nd rfl (.inl rfl)) (pss_one (ps_if (PW.pt (pw_or (pt_not (pt_val (calG (O__law_right T) hr gd (pa_cons (pv 2) (pa_cons (cal (O__law_shape T) hr (pa_cons (pv 2) (pa_cons pe_int pa_nil))) pa_nil))))) (pw_or1 (pt_not (pt_val (calG (O__law_right T) hr gd (pa_cons (pv 2) (pa_cons (cal (O__law_shape T) hr (pa_cons (pv 2) (pa_cons pe_int pa_nil))) pa_nil)))))))) (pss_one (ps_ret pe_bl)) pss_nil))))))
    (pss_cons (ps_set (i := 4) sc_law.nd rfl (.inl rfl) (pe_lst (pa_cons (cal (O_parting T) hr (pa_cons (mkO (O_Weave___init__ T) T.m_Weave T.g_Weave hr (pa_cons pe_str pa_nil)) (pa_cons (pe_tup (pa_cons pe_int (pa_cons pe_int pa_nil))) (pa_cons (pe_tup (pa_cons pe_int (pa_cons pe_int pa_nil))) pa_nil)))) (pa_cons (cal (O_precedence T) hr (pa_cons (pe_tup (pa_cons pe_int (pa_cons pe_int pa_nil))) (pa_cons (pe_tup (pa_cons pe_int (pa_cons pe_int pa_nil))) (pa_cons (pe_tup (pa_cons pe_int (pa_cons pe_int pa_nil))) pa_nil)))) (pa_cons (cal (O_precedence T) hr (pa_cons (pe_tup (pa_cons pe_int pa_nil)) (pa_cons (pe_tup (pa_cons pe_int pa_nil)) (pa_cons (pe_tup (pa_cons pe_int pa_nil)) pa_nil)))) pa_nil)))))
    (pss_one (ps_ret (pe_cmpR (eqD K hr) (pv 4) (pe_lst (pa_cons pe_int (pa_cons pe_str (pa_cons pe_str pa_nil)))) (nomark _)))))), ?_⟩
    walk_at "vc"
    refine ⟨_, .inl ⟨_, hS, rfl⟩, by split <;> split <;> omega, by split <;> split <;> omega, ?_⟩
    have hN : (if (if ((ns.map V.int).length : Int) < 5 then ((ns.map V.int).length : Int) else 5) > 1 then if ((ns.map V.int).length : Int) < 5 then ((ns.map V.int).length : Int) else 5 else 1).toNat ≤ 5 := by split <;> split <;> omega
    generalize (if (if ((ns.map V.int).length : Int) < 5 then ((ns.map V.int).length : Int) else 5) > 1 then if ((ns.map V.int).length : Int) < 5 then ((ns.map V.int).length : Int) else 5 else 1).toNat = N at *
    refine loop_r0 (fun i σ' H' => ∃ y1 y2 y3 y4 : Option V, σ' = [some (.ref a), y1, y2, y3, y4] ∧ SqL K H' a (ns.map V.int)) ⟨none, none, none, none, rfl, hS⟩ ?_ ?_
    · rintro i σ' H1 hi ⟨y1, y2, y3, y4, rfl, hS1⟩
      walk_at "vc"
      refine ⟨a, ns, i, rfl, hS1, hl, by omega, by omega, fun p o np hB => ?_⟩
      walk_at "vc"
      have p55 : (2 : Nat) ^ 55 = 36028797018963968 := by decide
      refine if_d (fun _ => ⟨by decide, by decide, ?_⟩) (fun _ => ⟨by decide, by decide, ?_⟩)
      all_goals
        refine loop_r0 (fun j σ' H' => ∃ y3 : Option V, σ' = [some (.ref a), some (.int i), some (.ref p), y3, y4] ∧ But p H1 H' ∧ Br p (20200 * j) H') ⟨y3, rfl, But.refl.at, Br.put hB⟩ ?_ ?_
        · rintro j σ' H2 hj ⟨y3, rfl, b2, B2⟩
          have hj4 : j < 5 := by omega
          walk_at "vc"
          exact round_do B2 (by omega) (by decide) (by decide) fun H3 b3 B3 => round_do B3 (by omega) (by decide) (by decide) fun H4 b4 B4 => ⟨(b2.trans b3).trans b4, B4.mono (by omega)⟩
        · rintro σ' H2 ⟨y3, rfl, b2, B2⟩
          walk_at "vc"
          exact b2.keepL np hS1
    · rintro σ' H1 ⟨y1, y2, y3, y4, rfl, hS1⟩
      walk_at "vc"
      rw [show Str.ofString "abab" = sg [97, 98, 97, 98] by decide +kernel]
      refine weave_new wok_abab fun x H2 s2 nx hx => ⟨le_size (by decide), fun p np => ⟨le_size (by decide), fun p1 np1 => ?_⟩⟩
      refine ⟨x, p, p1, _, 2, [2, 1], [3, 0], rfl, wok_abab, shp_same hx ((same_new np).new np1), upd_new np1 upd_same, ⟨rfl, by decide +kernel, by decide +kernel⟩, upd_same, ⟨rfl, by decide +kernel, by decide +kernel⟩, fun v H3 s3 _ ev => ?_⟩
      have ev2 := ev 2 ⟨by decide, by decide +kernel, by decide +kernel⟩
      subst ev2
      refine ⟨le_size (by decide), fun r1 nr1 => ⟨le_size (by decide), fun r2 nr2 => ⟨le_size (by decide), fun r3 nr3 => ?_⟩⟩⟩
      refine ⟨r1, r2, r3, [2, 2], [0, 1], [1, 0], [97, 98, 97, 98], rfl, ⟨by decide, by decide, by decide, by decide⟩, wok_abab, by decide +kernel, upd_new nr3 (upd_new nr2 upd_same), upd_new nr3 upd_same, ⟨rfl, by decide +kernel⟩, upd_same, ⟨rfl, by decide +kernel⟩, fun H4 s4 => ?_⟩
      refine ⟨le_size (by decide), fun u1 nu1 => ⟨le_size (by decide), fun u2 nu2 => ⟨le_size (by decide), fun u3 nu3 => ?_⟩⟩⟩
      refine ⟨u1, u2, u3, [1], [0], [1], [97], rfl, ⟨by decide, by decide, by decide, by decide⟩, wok_a, by decide +kernel, upd_new nu3 (upd_new nu2 upd_same), upd_new nu3 upd_same, ⟨rfl, by decide +kernel⟩, upd_same, ⟨rfl, by decide +kernel⟩, fun H5 s5 => ⟨le_size (by decide), fun w1 nw1 => ⟨le_size (by decide), fun w2 nw2 => ?_⟩⟩⟩
      rw [show precS [0, 1] [1, 0] [(2 : Int), 2].length = "sometimes" by decide +kernel, show precS [0] [1] [(1 : Int)].length = "always" by decide +kernel]
      exact eq_same (d := .list [.int 2, .str "sometimes", .str "always"]) (.lst (sqL_of (upd_new nw2 upd_same)) (.cons (.int 2) (.cons (.str _) (.cons (.str _) .nil)))) (.lst (sqL_of upd_same) (.cons (.int 2) (.cons (.str _) (.cons (.str _) .nil)))) (h := 1) ⟨by decide +kernel, by decide⟩ (q _))
end
/-! ## the end -/
def fnl : List DefA := [⟨fun K => He.ga K "is_int", ⟨("is_int", none), "is_int", "is_int", defArgs s_is_int, defBody s_is_int, defScope s_is_int, [], []⟩⟩, ⟨fun K => He.ga K "in_range", ⟨("in_range", none), "in_range", "in_range", defArgs s_in_range, defBody s_in_range, defScope s_in_range, [], []⟩⟩, ⟨fun K => He.ga K "is_shape", ⟨("is_shape", none), "is_shape", "is_shape", defArgs s_is_shape, defBody s_is_shape, defScope s_is_shape, [], []⟩⟩, ⟨fun K => He.ga K "require_shape", ⟨("require_shape", none), "require_shape", "require_shape", defArgs s_require_shape, defBody s_require_shape, defScope s_require_shape, [], []⟩⟩, ⟨fun K => He.ga K "is_cell", ⟨("is_cell", none), "is_cell", "is_cell", defArgs s_is_cell, defBody s_is_cell, defScope s_is_cell, [], []⟩⟩, ⟨fun K => He.ga K "require_cell", ⟨("require_cell", none), "require_cell", "require_cell", defArgs s_require_cell, defBody s_require_cell, defScope s_require_cell, [], []⟩⟩, ⟨fun K => He.ga K "read_times", ⟨("read_times", none), "read_times", "read_times", defArgs s_read_times, defBody s_read_times, defScope s_read_times, [], []⟩⟩, ⟨fun K => He.ga K "read_parts", ⟨("read_parts", none), "read_parts", "read_parts", defArgs s_read_parts, defBody s_read_parts, defScope s_read_parts, [], []⟩⟩, ⟨fun K => He.ga K "count_letter", ⟨("count_letter", none), "count_letter", "count_letter", defArgs s_count_letter, defBody s_count_letter, defScope s_count_letter, [], []⟩⟩, ⟨fun K => He.ga K "written", ⟨("written", none), "written", "written", defArgs s_written, defBody s_written, defScope s_written, [], []⟩⟩, ⟨fun K => He.ga K "read_weave", ⟨("read_weave", none), "read_weave", "read_weave", defArgs s_read_weave, defBody s_read_weave, defScope s_read_weave, [], []⟩⟩, ⟨fun K => He.ma K (He.ga K "Weave") "__init__", ⟨("Weave.__init__", none), "__init__", "Weave.__init__", defArgs s_Weave___init__, defBody s_Weave___init__, defScope s_Weave___init__, [], []⟩⟩, ⟨fun K => gpa K (He.ga K "Weave") "letters", ⟨("Weave.letters", none), "letters", "Weave.letters", defArgs s_Weave_letters, defBody s_Weave_letters, defScope s_Weave_letters, [], []⟩⟩, ⟨fun K => gpa K (He.ga K "Weave") "shape", ⟨("Weave.shape", none), "shape", "Weave.shape", defArgs s_Weave_shape, defBody s_Weave_shape, defScope s_Weave_shape, [], []⟩⟩, ⟨fun K => He.ga K "require_weave", ⟨("require_weave", none), "require_weave", "require_weave", defArgs s_require_weave, defBody s_require_weave, defScope s_require_weave, [], []⟩⟩, ⟨fun K => He.ga K "path_of", ⟨("path_of", none), "path_of", "path_of", defArgs s_path_of, defBody s_path_of, defScope s_path_of, [], []⟩⟩, ⟨fun K => He.ga K "key_number", ⟨("key_number", none), "key_number", "key_number", defArgs s_key_number, defBody s_key_number, defScope s_key_number, [], []⟩⟩, ⟨fun K => He.ga K "parting", ⟨("parting", none), "parting", "parting", defArgs s_parting, defBody s_parting, defScope s_parting, [], []⟩⟩, ⟨fun K => He.ga K "precedence", ⟨("precedence", none), "precedence", "precedence", defArgs s_precedence, defBody s_precedence, defScope s_precedence, [], []⟩⟩, ⟨fun K => He.ga K "_law_brook", ⟨("_law_brook", none), "_law_brook", "_law_brook", defArgs s__law_brook, defBody s__law_brook, defScope s__law_brook, [], []⟩⟩, ⟨fun K => He.ga K "_law_dip", ⟨("_law_dip", none), "_law_dip", "_law_dip", defArgs s__law_dip, defBody s__law_dip, defScope s__law_dip, [], []⟩⟩, ⟨fun K => He.ga K "_law_shape", ⟨("_law_shape", none), "_law_shape", "_law_shape", defArgs s__law_shape, defBody s__law_shape, defScope s__law_shape, [], []⟩⟩, ⟨fun K => He.ga K "_law_letters", ⟨("_law_letters", none), "_law_letters", "_law_letters", defArgs s__law_letters, defBody s__law_letters, defScope s__law_letters, [], []⟩⟩, ⟨fun K => He.ga K "_law_cell", ⟨("_law_cell", none), "_law_cell", "_law_cell", defArgs s__law_cell, defBody s__law_cell, defScope s__law_cell, [], []⟩⟩, ⟨fun K => He.ga K "_law_key", ⟨("_law_key", none), "_law_key", "_law_key", defArgs s__law_key, defBody s__law_key, defScope s__law_key, [], []⟩⟩, ⟨fun K => He.ga K "_law_same", ⟨("_law_same", none), "_law_same", "_law_same", defArgs s__law_same, defBody s__law_same, defScope s__law_same, [], []⟩⟩, ⟨fun K => He.ga K "_law_weaves", ⟨("_law_weaves", none), "_law_weaves", "_law_weaves", defArgs s__law_weaves, defBody s__law_weaves, defScope s__law_weaves, [], []⟩⟩, ⟨fun K => He.ga K "_law_beside", ⟨("_law_beside", none), "_law_beside", "_law_beside", defArgs s__law_beside, defBody s__law_beside, defScope s__law_beside, [], []⟩⟩, ⟨fun K => He.ga K "_law_pair", ⟨("_law_pair", none), "_law_pair", "_law_pair", defArgs s__law_pair, defBody s__law_pair, defScope s__law_pair, [], []⟩⟩, ⟨fun K => He.ga K "_law_right", ⟨("_law_right", none), "_law_right", "_law_right", defArgs s__law_right, defBody s__law_right, defScope s__law_right, [], []⟩⟩, ⟨fun K => He.ga K "law", ⟨("law", none), "law", "law", defArgs s_law, defBody s_law, defScope s_law, [], []⟩⟩]
def fal : List He.Fa := [.free "all", .free "any", .free "bool", .free "enumerate", .free "int", .free "isinstance", .free "len", .free "list", .free "max", .free "min", .free "range", .free "repr", .free "str", .free "sum", .free "tuple", .free "zip", .str "AXES" "abcd", .int "MOST_BITS" 120, .int "MOST_LETTERS" 240, .str "DIGITS" "0123456789", .int "MOST_OPEN" 8, .int "MOST_TIMES" 240, .glo "Weave", .cls "Weave", .mkr "Weave", .noat "Weave" "own_letters", .noat "Weave" "own_shape", .glo "is_int", .glo "in_range", .glo "is_shape", .glo "require_shape", .glo "is_cell", .glo "require_cell", .glo "read_times", .glo "read_parts", .glo "count_letter", .glo "written", .glo "read_weave", .glo "require_weave", .glo "path_of", .glo "key_number", .glo "parting", .glo "precedence", .glo "_law_brook", .glo "_law_dip", .glo "_law_shape", .glo "_law_letters", .glo "_law_cell", .glo "_law_key", .glo "_law_same", .glo "_law_weaves", .glo "_law_beside", .glo "_law_pair", .glo "_law_right", .glo "law"]
def exl : List (PySem.W.Frag → Bool) := [isB "Weave", propB "Weave" "letters", propB "Weave" "shape"]
abbrev Rw : PySem.W.OpenRow := PySem.W.OpenLaw.row PySem.Challenge.rw_wovenkeys_k07_parting_and_precedence
abbrev hk : PySem.W.Hook := hookA 7 fal exl fnl
def ob (s : PySem.W.SharedT) : He.AlD := obsAG 7 fal exl fnl (HandSHeadRun.getT s)
theorem ob_eq (s : PySem.W.SharedT) : ob s = hk.obs s.abs := obsAG_eq (HandSHeadRun.getT_eq s)
def nm0 : List Str := ["WeaveError", "InvalidText", "TooLarge", "InvalidShape", "InvalidWeave", "InvalidCell", "AXES", "MOST_BITS", "MOST_LETTERS", "is_int", "in_range", "is_shape", "require_shape", "is_cell", "require_cell", "DIGITS", "MOST_OPEN", "MOST_TIMES", "read_times", "read_parts", "count_letter", "written", "read_weave", "run_text", "Weave", "require_weave", "path_of", "key_number", "parting", "precedence"]
def nm1 : List Str := ["_law_brook", "_law_dip", "_law_shape", "_law_letters", "_law_cell", "_law_key", "_law_same", "_law_weaves", "_law_beside", "_law_pair", "_law_right"]
def nms : List Str := nm0 ++ nm1
theorem run (w : World) : HandSHeadRun.RunEq Rw (PySem.W.view Rw.prog [46]) hk ob 3000 nms w := by
  intro os
  kernel_rfl
theorem txt {K : PySem.W.Frag} {h : Heap} {mg : Str → Option Value} (X : K.In h) (G : h.Ns mainGlobals mg) (c : SaysA fal exl fnl K) : Txt K mg where
  n_all := He.free_ok X G (c.fact 0)
  n_any := He.free_ok X G (c.fact 1)
  n_bool := He.free_ok X G (c.fact 2)
  n_enumerate := He.free_ok X G (c.fact 3)
  n_int := He.free_ok X G (c.fact 4)
  n_isinstance := He.free_ok X G (c.fact 5)
  n_len := He.free_ok X G (c.fact 6)
  n_list := He.free_ok X G (c.fact 7)
  n_max := He.free_ok X G (c.fact 8)
  n_min := He.free_ok X G (c.fact 9)
  n_range := He.free_ok X G (c.fact 10)
  n_repr := He.free_ok X G (c.fact 11)
  n_str := He.free_ok X G (c.fact 12)
  n_sum := He.free_ok X G (c.fact 13)
  n_tuple := He.free_ok X G (c.fact 14)
  n_zip := He.free_ok X G (c.fact 15)
  c_AXES := He.str_ok X G (c.fact 16)
  c_MOST_BITS := He.int_ok X G (c.fact 17)
  c_MOST_LETTERS := He.int_ok X G (c.fact 18)
  c_DIGITS := He.str_ok X G (c.fact 19)
  c_MOST_OPEN := He.int_ok X G (c.fact 20)
  c_MOST_TIMES := He.int_ok X G (c.fact 21)
  g_Weave := He.glo_ok X G (c.fact 22)
  k_Weave := He.cls_ok (c.fact 23)
  m_Weave := He.mkr_ok (c.fact 24)
  i_Weave := isB_ok (c.own 0)
  a_Weave_own_letters := He.noat_ok (c.fact 25)
  a_Weave_own_shape := He.noat_ok (c.fact 26)
  g_is_int := He.glo_ok X G (c.fact 27)
  g_in_range := He.glo_ok X G (c.fact 28)
  g_is_shape := He.glo_ok X G (c.fact 29)
  g_require_shape := He.glo_ok X G (c.fact 30)
  g_is_cell := He.glo_ok X G (c.fact 31)
  g_require_cell := He.glo_ok X G (c.fact 32)
  g_read_times := He.glo_ok X G (c.fact 33)
  g_read_parts := He.glo_ok X G (c.fact 34)
  g_count_letter := He.glo_ok X G (c.fact 35)
  g_written := He.glo_ok X G (c.fact 36)
  g_read_weave := He.glo_ok X G (c.fact 37)
  p_Weave_letters := propB_ok (c.own 1)
  p_Weave_shape := propB_ok (c.own 2)
  g_require_weave := He.glo_ok X G (c.fact 38)
  g_path_of := He.glo_ok X G (c.fact 39)
  g_key_number := He.glo_ok X G (c.fact 40)
  g_parting := He.glo_ok X G (c.fact 41)
  g_precedence := He.glo_ok X G (c.fact 42)
  g__law_brook := He.glo_ok X G (c.fact 43)
  g__law_dip := He.glo_ok X G (c.fact 44)
  g__law_shape := He.glo_ok X G (c.fact 45)
  g__law_letters := He.glo_ok X G (c.fact 46)
  g__law_cell := He.glo_ok X G (c.fact 47)
  g__law_key := He.glo_ok X G (c.fact 48)
  g__law_same := He.glo_ok X G (c.fact 49)
  g__law_weaves := He.glo_ok X G (c.fact 50)
  g__law_beside := He.glo_ok X G (c.fact 51)
  g__law_pair := He.glo_ok X G (c.fact 52)
  g__law_right := He.glo_ok X G (c.fact 53)
  g_law := He.glo_ok X G (c.fact 54)
  f_is_int := c.df 0
  f_in_range := c.df 1
  f_is_shape := c.df 2
  f_require_shape := c.df 3
  f_is_cell := c.df 4
  f_require_cell := c.df 5
  f_read_times := c.df 6
  f_read_parts := c.df 7
  f_count_letter := c.df 8
  f_written := c.df 9
  f_read_weave := c.df 10
  f_Weave___init__ := c.df 11
  f_Weave_letters := c.df 12
  f_Weave_shape := c.df 13
  f_require_weave := c.df 14
  f_path_of := c.df 15
  f_key_number := c.df 16
  f_parting := c.df 17
  f_precedence := c.df 18
  f__law_brook := c.df 19
  f__law_dip := c.df 20
  f__law_shape := c.df 21
  f__law_letters := c.df 22
  f__law_cell := c.df 23
  f__law_key := c.df 24
  f__law_same := c.df 25
  f__law_weaves := c.df 26
  f__law_beside := c.df 27
  f__law_pair := c.df 28
  f__law_right := c.df 29
  f_law := c.df 30
theorem law_at {P : Program} {w : World} {K : PySem.W.Frag} {h : Heap} {mg : Str → Option Value} {f : Addr} (X : K.In h) (G : h.Ns mainGlobals mg) (hfa : mg ("law" : Str) = some (.ref f)) (c : SaysA fal exl fnl K) :
    ∃ fd : FuncData, (∀ (s : Shared) (v : Value), BindsTo s fd ⟨[v], []⟩ [("_law_script", v)]) ∧ ∀ base : Heap, K.In base → base.Ns mainGlobals mg → GFn P w K mg base CX0 16 f fd ["_law_script"] (sp_law K) := by
  have T := txt X G c
  obtain ⟨fd, F⟩ := T.f_law
  have e := hfa.symm.trans T.g_law
  cases e
  have b := FunD.bindsA (ps := ["_law_script"]) F fun _ _ _ _ _ _ us hl => match us, hl with | [_], _ => rfl
  exact ⟨fd, fun s v => b s [v] rfl, fun base _ _ => fn_law T F⟩
end K07
open PySem PySem.W PySem.Calls PyProof.Rows
set_option maxHeartbeats 0 in
theorem PySem.Challenge.cw_wovenkeys_k07_parting_and_precedence_holds : PySem.Challenge.rw_wovenkeys_k07_parting_and_precedence.Holds := by
  w_on; o_law
  refine HandSHeadRun.head_any (r := OpenLaw.row PySem.Challenge.rw_wovenkeys_k07_parting_and_precedence) (q := view (OpenLaw.row PySem.Challenge.rw_wovenkeys_k07_parting_and_precedence).prog [46]) (H := K07.hk) (ob := K07.ob) (M := 3000) (loose := K07.nms) (d := HandSHeadRun.topDef (OpenLaw.row PySem.Challenge.rw_wovenkeys_k07_parting_and_precedence).prog 46) (kwd := []) K07.ob_eq
    (by kernel_rfl) (fun s => by kernel_rfl) K07.run (by kernel_rfl) (by kernel_rfl) (by kernel_rfl) (by rfl) (by first | assumption | decide +kernel) (by decide +kernel) ⟨rfl, rfl, rfl, rfl, rfl, by decide +kernel⟩ ?hw ?hc
  case hw => w_witness2
  case hc =>
    refine WK.walkG (l := PySem.Challenge.rw_wovenkeys_k07_parting_and_precedence) (n := 63) (k := 16) (x := "_law_script") rfl (by decide) (by kernel_rfl) ⟨rfl, by decide, by decide⟩ ?F
    intro w mg fa h Y G hmg0
    obtain ⟨K, KX, c⟩ := Y
    have hmg : mg ("law" : PySem.Str) = some (.ref fa) := by
      have e : (HandSHeadRun.topDef (OpenLaw.row PySem.Challenge.rw_wovenkeys_k07_parting_and_precedence).prog 46).name = ("law" : PySem.Str) := by kernel_rfl
      rw [← e]
      exact hmg0
    obtain ⟨fd, hb, hF⟩ := K07.law_at (P := (PySem.Challenge.rw_wovenkeys_k07_parting_and_precedence).prog) (w := w) KX G hmg c
    exact ⟨K, fd, K07.sp_law K, KX, hb, fun H a ns hl _ hS => ⟨a, ns, rfl, hS, hl, fun _ => rfl⟩, hF⟩
