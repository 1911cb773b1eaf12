import PyProof.Rows.All
import Wide.All
import OpenK.AllK
import Wide.FinOn
import KE.KStateDown
import Lean
import HandS.Base
import HandS.Call
import HandS.List
import HandS.Comp
import HandS.Ends
import HandS.Dict
import HandS.Iter
import HandS.Text
import HandS.More
import HandS.Exc
import HandS.ExcOwn
import HandS.TryOnly
import HandS.TryMany
import HandS.IsInst
import HandS.Words
import HandS.WordsList
import HandS.WordsExc
import HandS.Wide
import HandS.WideBits
import HandS.Defaults
import HandS.Head0
import HandS.Head1
import HandS.Head2
import HandS.HeadEnd
import HandS.HeadHook1
import HandS.HeadHook2
import HandS.RaiseMore
import HandS.TupAny
import HandS.Style
import HandS.Property
import HandS.Conv
import PySem.Challenge.RW_wovenkeys_k09_blocks_and_middles
set_option Elab.async false
set_option linter.all false
set_option maxRecDepth 100000
set_option maxHeartbeats 4000000
/-! ## Part 1: rules in short form, over the hand layer -/
namespace WK
open PySem PySem.Spec PyProof.Rows L2

/-! ### a def of the text that keeps a promise, found by its name -/
structure Ok (P : Program) (w : World) (K : PySem.W.Frag) (mg : Str → Option Value) (base : Heap) (C : CXT) (k : Nat) (x : Str) (ps : List Str) (sp : Sp) : Prop where
  ex : ∃ fd, FnOk P w K mg base C k (He.ga K x) fd ps sp ∧ Binds K fd ps []
  kp : PySem.W.keepIn K (.ref (He.ga K x)) = true
  at_ : mg x = some (.ref (He.ga K x))
def tCal (sp : Sp) (E : XK) (t : TA) : TE := fun σ H Q => t σ H fun vs H1 => sp vs H1 Q E
section
variable {X : Cx} {C : CXT} {k j : Nat} {ps : List Str} {sp : Sp} {E : XK} {x : Str} {p pos : Pos} {e : Expr} {es : List Expr} {t : TA}
theorem tCal_eq : tCall sp [] E t = tCal sp E t := by
  funext σ H Q
  show (t σ H fun vs H1 => sp (vs ++ []) H1 Q E) = t σ H fun vs H1 => sp vs H1 Q E
  congr 1
  funext vs H1
  rw [List.append_nil]
theorem calX (O : Ok X.prog X.w X.K X.mg X.base C k x ps sp) (hr : Room j X.A) (hx : Passes C X E) (ha : PA X (e :: es) t) (hj : k ≤ j := by decide) (hg : Gl X x := by rfl) (hdb : (x == ("__debug__" : Str)) = false := by decide)
    (he : starEach (e :: es) X.env = (false, eval e X.env) :: starEach es X.env := by rfl) (hpl : (backTo pos (starEach es X.env)).any (·.1) = false := by rfl) : PE X (.Call (.Name x p) (e :: es) [] pos) (tCal sp E t) := by
  obtain ⟨fd, F, B⟩ := O.ex
  rw [← tCal_eq]
  exact pe_call F (hr.mono hj) hg O.at_ O.kp B .nil hx ha hdb he hpl
theorem cal (O : Ok X.prog X.w X.K X.mg X.base CX0 k x ps sp) (hr : Room j X.A) (ha : PA X (e :: es) t) (hj : k ≤ j := by decide) (hg : Gl X x := by rfl) (hdb : (x == ("__debug__" : Str)) = false := by decide)
    (he : starEach (e :: es) X.env = (false, eval e X.env) :: starEach es X.env := by rfl) (hpl : (backTo pos (starEach es X.env)).any (·.1) = false := by rfl) : PE X (.Call (.Name x p) (e :: es) [] pos) (tCal sp E0 t) :=
  calX O hr pass0 ha hj hg hdb he hpl
theorem cal0 (O : Ok X.prog X.w X.K X.mg X.base CX0 k x ps sp) (hr : Room j X.A) (hj : k ≤ j := by decide) (hg : Gl X x := by rfl) (hdb : (x == ("__debug__" : Str)) = false := by decide) : PE X (.Call (.Name x p) [] [] pos) (tCal sp E0 tNil) := by
  obtain ⟨fd, F, B⟩ := O.ex
  rw [← tCal_eq]
  exact pe_call0 F (hr.mono hj) hg O.at_ O.kp B .nil pass0 hdb
end
/-- a def keeps a promise: by its body -/
theorem Ok.mk' {P : Program} {w : World} {K : PySem.W.Frag} {mg : Str → Option Value} {base : Heap} {C : CXT} {k : Nat} {x : Str} {N ps : List Str} {st : Stmt} {sp : Sp}
    (F : ∃ fd, FunD K x x (defArgs st) (defBody st) (defScope st) [] [] (He.ga K x) fd) (g : mg x = some (.ref (He.ga K x))) (S : FnScope N ps (defScope st)) (len : ∀ vs H Q E, sp vs H Q E → vs.length = ps.length)
    (hb : ∀ (kV doc pm : Value) (an : Option Addr) (cdv ct : Value) (us : List Value), us.length = ps.length → bindArgs (PySem.W.fnOf x x (defArgs st) (defBody st) (defScope st) .none kV doc pm an cdv ct) ⟨us, []⟩ = pure (ps.zip us))
    (hbody : ∀ (f : Addr) (cdv : Value) (A : Around) (outer : List Env) (s : Shared) (H : Hp) (vs : List V) (Q : VK) (E : XK), Room k (A.deeper (envOfC x (defScope st) s.heap.objs.size f cdv)) → sp vs H Q E →
      ∃ t, PSs (cxOf C P w K mg base N x (defScope st) f cdv A outer s H E) (defBody st) t ∧ t { nx := fun _ H' => Q .non H', rt := Q } (start N vs) H) : Ok P w K mg base C (k + 1) x ps sp := by
  obtain ⟨fd, F⟩ := F
  exact ⟨⟨fd, F.ok S len fun cdv A outer s H vs Q E => hbody _ cdv A outer s H vs Q E, F.bindsN hb⟩, F.kp, g⟩
/-- nothing leaves it -/
theorem Ok.mk0 {P : Program} {w : World} {K : PySem.W.Frag} {mg : Str → Option Value} {base : Heap} {k : Nat} {x : Str} {N ps : List Str} {st : Stmt} {sp : Sp}
    (F : ∃ fd, FunD K x x (defArgs st) (defBody st) (defScope st) [] [] (He.ga K x) fd) (g : mg x = some (.ref (He.ga K x))) (S : FnScope N ps (defScope st)) (len : ∀ vs H Q E, sp vs H Q E → vs.length = ps.length)
    (hb : ∀ (kV doc pm : Value) (an : Option Addr) (cdv ct : Value) (us : List Value), us.length = ps.length → bindArgs (PySem.W.fnOf x x (defArgs st) (defBody st) (defScope st) .none kV doc pm an cdv ct) ⟨us, []⟩ = pure (ps.zip us))
    (hbody : ∀ (f : Addr) (cdv : Value) (A : Around) (outer : List Env) (s : Shared) (H : Hp) (vs : List V) (Q : VK) (E : XK), Room k (A.deeper (envOfC x (defScope st) s.heap.objs.size f cdv)) → sp vs H Q E →
      ∃ t, PSs (cxOf CX0 P w K mg base N x (defScope st) f cdv A outer s H E).nox (defBody st) t ∧ t { nx := fun _ H' => Q .non H', rt := Q } (start N vs) H) : Ok P w K mg base CX0 (k + 1) x ps sp :=
  Ok.mk' F g S len hb fun f cdv A outer s H vs Q E hr h => by
    obtain ⟨t, h1, h2⟩ := hbody f cdv A outer s H vs Q E hr h
    exact ⟨t, h1.nox, h2⟩

/-! ### rules with the written part told apart -/
section
variable {X : Cx}
theorem ixL (K : PySem.W.Frag) (h : X.K = K := by rfl) : IxR X (rIxL K) := by
  subst h
  exact ix_list
theorem ixT (K : PySem.W.Frag) (h : X.K = K := by rfl) : IxR X (rIxT K) := by
  subst h
  exact ix_tup
theorem piL (K : PySem.W.Frag) {tg l : Expr} {tl : TE} (hl : PE X l tl) (h : X.K = K := by rfl) : PI X tg l (iList K tl) := by
  subst h
  exact pi_list hl
theorem piT (K : PySem.W.Frag) {tg l : Expr} {tl : TE} (hl : PE X l tl) (h : X.K = K := by rfl) : PI X tg l (iTup K tl) := by
  subst h
  exact pi_tup hl
def rLenU (K : PySem.W.Frag) : List V → Hp → VK → Prop := fun xs H Q => ∃ x n, xs = [x] ∧ LenV K x H n ∧ Q (.int n) H
theorem lenU (K : PySem.W.Frag) (h : X.K = K := by rfl) : CallR X (.builtin "len") (rLenU K) := by
  subst h
  exact call_len
theorem sumL (K : PySem.W.Frag) (hc : X.calm = true := by rfl) (h : X.K = K := by rfl) : CallR X (.builtin "sum") (rSum K) := by
  subst h
  exact cr_sum hc
theorem maxL (K : PySem.W.Frag) (hc : X.calm = true := by rfl) (h : X.K = K := by rfl) : CallR X (.builtin "max") (rMax K) := by
  subst h
  exact cr_max hc
theorem allL (K : PySem.W.Frag) (hc : X.calm = true := by rfl) (h : X.K = K := by rfl) : CallR X (.builtin "all") (rAll K) := by
  subst h
  exact cr_all hc
theorem anyL (K : PySem.W.Frag) (hc : X.calm = true := by rfl) (h : X.K = K := by rfl) : CallR X (.builtin "any") (rAny K) := by
  subst h
  exact cr_any hc
theorem max2 (hc : X.calm = true := by rfl) : CallR X (.builtin "max") (fun xs H Q => ∃ i j, xs = [.int i, .int j] ∧ Q (.int (if j > i then j else i)) H) := call_max2 hc
theorem min2 (hc : X.calm = true := by rfl) : CallR X (.builtin "min") (fun xs H Q => ∃ i j, xs = [.int i, .int j] ∧ Q (.int (if j < i then j else i)) H) := call_min2 hc
theorem eqD (K : PySem.W.Frag) {j : Nat} (hr : Room j X.A) (h : X.K = K := by rfl) : OpR X (compareOp .Eq) (rEqD K) := by
  subst h
  exact op_eqD hr.units
theorem neD (K : PySem.W.Frag) {j : Nat} (hr : Room j X.A) (h : X.K = K := by rfl) : OpR X (compareOp .NotEq) (rNeD K) := by
  subst h
  exact op_neD hr.units
theorem isi (K : PySem.W.Frag) (h : X.K = K := by rfl) : CallR X (.builtin "isinstance") (rIsi K) := by
  subst h
  exact call_isi
theorem isiT (K : PySem.W.Frag) (h : X.K = K := by rfl) : CallR X (.builtin "isinstance") (rIsiT K) := by
  subst h
  exact call_isiT
/-- the class of a built-in kind, as a value -/
theorem tyInt (hm : X.mg "int" = none) (hg : Gl X "int" := by rfl) {pos : Pos} : PE X (.Name "int" pos) (tC (.ty "int")) := pe_bltn (u := .type "int") hg hm (by decide +kernel) rfl
end
/-! ### ints of any size -/
def CPowW (i j : Int) : Prop := 0 ≤ j ∧ (Builtin.Int.intBits i : Int) * j ≤ 2 ^ 27
section
variable {X : Cx}
theorem op_powW : OpR X (binaryOp .Pow) (rI CPowW fun i j => .int (i ^ j.toNat)) := opI fun _ _ _ _ _ _ _ hc q => pow_int hc.1 hc.2 q
/-- a written power -/
theorem pe_cpow {i j v : Int} {a b : Nat} {p q pos : Pos} (hv : i ^ j.toNat = v) (hj : 0 ≤ j ∧ j ≤ 1000000 := by decide) (hi : i.natAbs < 2 ^ 64 := by decide) : PE X (.BinOp (.Constant (.int i) a p) .Pow (.Constant (.int j) b q) pos) (tC (.int v)) := by
  subst hv
  have h := pe_op (X := X) (pos := pos) op_pow (pe_int (i := i) (j := a) (pos := p)) (pe_int (i := j) (j := b) (pos := q))
  exact ⟨fun pins s σ H Q I hq => h.run pins s σ H Q I ⟨i, j, rfl, rfl, ⟨hj.1, hj.2, hi⟩, hq⟩⟩
end
theorem powW_ok {i : Int} {n : Nat} {k : Nat} (h : i.natAbs < 2 ^ n) (hk : n * k ≤ 134217728) : CPowW i (k : Int) := by
  have b := PyProof.Rows.intBits_le h
  refine ⟨Int.natCast_nonneg _, ?_⟩
  have e : (2 : Int) ^ 27 = 134217728 := by decide
  rw [e]
  have h1 : Builtin.Int.intBits i * k ≤ n * k := Nat.mul_le_mul_right _ b
  have h2 : ((Builtin.Int.intBits i : Nat) : Int) * (k : Int) = ((Builtin.Int.intBits i * k : Nat) : Int) := (Int.natCast_mul _ _).symm
  rw [h2]
  omega
end WK
/-! ### the module's names, own errors -/
namespace WK
open PySem PySem.Spec PyProof.Rows L2
section
variable {X : Cx}
theorem pe_gint {x : Str} {i : Int} {pos : Pos} (h : ∃ t, X.mg x = some (.int i t)) (hg : Gl X x := by rfl) (hd : (x == ("__debug__" : Str)) = false := by decide) : PE X (.Name x pos) (tC (.int i)) := by
  obtain ⟨t, e⟩ := h
  exact pe_glob hg e ⟨t, rfl⟩ hd
theorem pe_gstr {x z : Str} {pos : Pos} (h : ∃ t, X.mg x = some (.str z t)) (hg : Gl X x := by rfl) (hd : (x == ("__debug__" : Str)) = false := by decide) : PE X (.Name x pos) (tC (.str z)) := by
  obtain ⟨t, e⟩ := h
  exact pe_glob hg e ⟨t, rfl⟩ hd
end
/-- an own error class over ValueError, without an own __init__ -/
structure Xc (K : PySem.W.Frag) (mg : Str → Option Value) (x : Str) : Prop where
  ex : PySem.W.excIn K (He.ga K x) He.veBase "ValueError.__new__" = true
  g : mg x = some (.ref (He.ga K x))
  kp : PySem.W.keepIn K (.ref (He.ga K x)) = true
  sub : PySem.W.subIn K (.ref (He.ga K x)) (.type "BaseException") = some true
  ty : PySem.W.typeIn K (.ref (He.ga K x)) = some (.type "type")
theorem Xc.of {K : PySem.W.Frag} {h : Heap} {mg : Str → Option Value} (X : K.In h) (G : h.Ns mainGlobals mg) {x : Str} (a : (He.Fa.glo x).ok K = true) (b : (He.Fa.exc x).ok K = true) : Xc K mg x := by
  obtain ⟨b1, b2, b3, b4⟩ := He.exc_ok b
  exact ⟨b1, He.glo_ok X G a, b2, b3, b4⟩
def tEx (C : Value) : L2.St → Hp → XK → Prop := fun _ H Q => Q C none H
theorem Xc.pmk {X : Cx} {K : PySem.W.Frag} {x m : Str} {j : Nat} {p p2 pos : Pos} (T : Xc K X.mg x) (hg : Gl X x) (hK : X.K = K := by rfl) (hdb : (x == ("__debug__" : Str)) = false := by decide) :
    PMk X (.Call (.Name x p) [.Constant (.str m) j p2] [] pos) (tEx (.ref (He.ga K x))) := by
  subst hK
  exact pmk_own PySem.F.excBase_ValueError T.ex T.g T.kp (raises_own T.sub T.ty) hg hdb
/-- a test that is true leaves what it leaves, a false one goes on -/
theorem if_t {c : Bool} {A B : Prop} (h : c = true) (a : A) : if c = true then A else B := by
  rw [if_pos h]
  exact a
theorem if_f {c : Bool} {A B : Prop} (h : c = false) (b : B) : if c = true then A else B := by
  rw [h, if_neg Bool.false_ne_true]
  exact b
theorem if_c {c : Bool} {A B : Prop} (a : c = true → A) (b : c = false → B) : if c = true then A else B := by
  cases c with
  | true => exact if_t rfl (a rfl)
  | false => exact if_f rfl (b rfl)
/-- by a proposition -/
theorem if_d {p : Prop} [Decidable p] {A B : Prop} (a : p → A) (b : ¬ p → B) : if decide p = true then A else B := by
  by_cases h : p
  · exact if_t (decide_eq_true h) (a h)
  · exact if_f (decide_eq_false h) (b h)
theorem if_nd {p : Prop} [Decidable p] {A B : Prop} (a : ¬ p → A) (b : p → B) : if (!decide p) = true then A else B := by
  by_cases h : p
  · exact if_f (by rw [decide_eq_true h]; rfl) (b h)
  · exact if_t (by rw [decide_eq_false h]; rfl) (a h)
end WK

namespace WK
open PySem PySem.Spec PyProof.Rows L2
/-! ### int() of an int, of a truth -/
def rIntI : List V → Hp → VK → Prop := fun xs H Q => ∃ i, xs = [.int i] ∧ Q (.int i) H
def rIntB : List V → Hp → VK → Prop := fun xs H Q => ∃ k, xs = [.bl k] ∧ Q (.int (if k = true then 1 else 0)) H
section
variable {X : Cx}
theorem intI : CallR X (.type "int") rIntI := fun pins s σ H xs us Q I r h => call_int1 pins s σ H xs us Q I r (.inl h)
theorem intB : CallR X (.type "int") rIntB := fun pins s σ H xs us Q I r h => call_int1 pins s σ H xs us Q I r (.inr h)
end
end WK
namespace WK
open PySem PySem.Spec PyProof.Rows L2
/-! ### isinstance -/
theorem isi_of {K : PySem.W.Frag} {H : Hp} {x : V} {t : Value} {n : String} {b : Bool} {R : Bool → Prop} (ht : TyX K H x t) (hk : PySem.W.kitOne K t (.type n) = some b) (r : R b) :
    ∃ t u, ClsV (.ty n) u ∧ TyX K H x t ∧ ∃ b, PySem.W.kitOne K t u = some b ∧ R b := ⟨t, _, .ty n, ht, b, hk, r⟩
theorem isi_own {K : PySem.W.Frag} {H : Hp} {x : V} {t : Value} {C : Addr} {b : Bool} {R : Bool → Prop} (ht : TyX K H x t) (hk : PySem.W.kitOne K t (.ref C) = some b) (r : R b) :
    ∃ t u, ClsV (.ref C) u ∧ TyX K H x t ∧ ∃ b, PySem.W.kitOne K t u = some b ∧ R b := ⟨t, _, .own C, ht, b, hk, r⟩
theorem isi_tt {K : PySem.W.Frag} {H : Hp} {t : Addr} {xs : List V} {R : Bool → Prop} (ht : H t = some (.tup xs)) (r : R true) :
    ∃ t', ∃ u, ClsV (.ty "tuple") u ∧ TyX K H (.ref t) t' ∧ ∃ b, PySem.W.kitOne K t' u = some b ∧ R b := isi_of (.base (.tup ht)) rfl r
theorem isi_ll {K : PySem.W.Frag} {H : Hp} {t : Addr} {xs : List V} {R : Bool → Prop} (ht : H t = some (.lst xs)) (r : R true) :
    ∃ t', ∃ u, ClsV (.ty "list") u ∧ TyX K H (.ref t) t' ∧ ∃ b, PySem.W.kitOne K t' u = some b ∧ R b := isi_of (.base (.lst ht)) rfl r
section
variable {K : PySem.W.Frag} {H : Hp} {n : String} {R : Bool → Prop}
theorem isi_int {i : Int} : (∃ t u, ClsV (.ty n) u ∧ TyX K H (.int i) t ∧ ∃ b, PySem.W.kitOne K t u = some b ∧ R b) = ∃ b, PySem.W.kitOne K (.type "int") (.type n) = some b ∧ R b := by
  apply propext
  constructor
  · rintro ⟨t, u, c, h, b, k, r⟩
    cases c
    cases h with | base h => cases h; exact ⟨b, k, r⟩
  · rintro ⟨b, k, r⟩
    exact isi_of (.base (.int i)) k r
theorem isi_str {i : Str} : (∃ t u, ClsV (.ty n) u ∧ TyX K H (.str i) t ∧ ∃ b, PySem.W.kitOne K t u = some b ∧ R b) = ∃ b, PySem.W.kitOne K (.type "str") (.type n) = some b ∧ R b := by
  apply propext
  constructor
  · rintro ⟨t, u, c, h, b, k, r⟩
    cases c
    cases h with | base h => cases h; exact ⟨b, k, r⟩
  · rintro ⟨b, k, r⟩
    exact isi_of (.base (.str i)) k r
theorem isi_bl {i : Bool} : (∃ t u, ClsV (.ty n) u ∧ TyX K H (.bl i) t ∧ ∃ b, PySem.W.kitOne K t u = some b ∧ R b) = ∃ b, PySem.W.kitOne K (.type "bool") (.type n) = some b ∧ R b := by
  apply propext
  constructor
  · rintro ⟨t, u, c, h, b, k, r⟩
    cases c
    cases h with | base h => cases h; exact ⟨b, k, r⟩
  · rintro ⟨b, k, r⟩
    exact isi_of (.base (.bl i)) k r
theorem isi_non : (∃ t u, ClsV (.ty n) u ∧ TyX K H .non t ∧ ∃ b, PySem.W.kitOne K t u = some b ∧ R b) = ∃ b, PySem.W.kitOne K (.type "NoneType") (.type n) = some b ∧ R b := by
  apply propext
  constructor
  · rintro ⟨t, u, c, h, b, k, r⟩
    cases c
    cases h with | base h => cases h; exact ⟨b, k, r⟩
  · rintro ⟨b, k, r⟩
    exact isi_of (.base .non) k r
theorem kit_ii : PySem.W.kitOne K (.type "int") (.type "int") = some true := rfl
theorem kit_ss : PySem.W.kitOne K (.type "str") (.type "str") = some true := rfl
theorem kit_bb : PySem.W.kitOne K (.type "bool") (.type "bool") = some true := rfl
theorem kit_ib : PySem.W.kitOne K (.type "int") (.type "bool") = some false := by kernel_rfl
theorem kit_is : PySem.W.kitOne K (.type "int") (.type "str") = some false := by kernel_rfl
theorem kit_it : PySem.W.kitOne K (.type "int") (.type "tuple") = some false := by kernel_rfl
theorem kit_il : PySem.W.kitOne K (.type "int") (.type "list") = some false := by kernel_rfl
theorem kit_si : PySem.W.kitOne K (.type "str") (.type "int") = some false := by kernel_rfl
theorem kit_sb : PySem.W.kitOne K (.type "str") (.type "bool") = some false := by kernel_rfl
theorem kit_st : PySem.W.kitOne K (.type "str") (.type "tuple") = some false := by kernel_rfl
theorem kit_sl : PySem.W.kitOne K (.type "str") (.type "list") = some false := by kernel_rfl
theorem kit_bi : PySem.W.kitOne K (.type "bool") (.type "int") = some true := by kernel_rfl
theorem kit_bs : PySem.W.kitOne K (.type "bool") (.type "str") = some false := by kernel_rfl
theorem kit_bt : PySem.W.kitOne K (.type "bool") (.type "tuple") = some false := by kernel_rfl
theorem kit_ni : PySem.W.kitOne K (.type "NoneType") (.type "int") = some false := by kernel_rfl
theorem kit_ns : PySem.W.kitOne K (.type "NoneType") (.type "str") = some false := by kernel_rfl
theorem kit_nt : PySem.W.kitOne K (.type "NoneType") (.type "tuple") = some false := by kernel_rfl
theorem kit_tt : PySem.W.kitOne K (.type "tuple") (.type "tuple") = some true := rfl
theorem kit_tl : PySem.W.kitOne K (.type "tuple") (.type "list") = some false := by kernel_rfl
theorem kit_ti : PySem.W.kitOne K (.type "tuple") (.type "int") = some false := by kernel_rfl
theorem kit_ts : PySem.W.kitOne K (.type "tuple") (.type "str") = some false := by kernel_rfl
theorem kit_ll : PySem.W.kitOne K (.type "list") (.type "list") = some true := rfl
theorem kit_lt : PySem.W.kitOne K (.type "list") (.type "tuple") = some false := by kernel_rfl
theorem kit_li : PySem.W.kitOne K (.type "list") (.type "int") = some false := by kernel_rfl
theorem kit_ls : PySem.W.kitOne K (.type "list") (.type "str") = some false := by kernel_rfl
end
theorem pgTup {X : Cx} {pos : Pos} (K : PySem.W.Frag) {es : List Expr} {k : Nat} {t : TGs} {n : Nat} (h : PGs X es t) (hc : X.calm = true := by rfl) (hK : X.K = K := by rfl)
    (hn : (assignEach es X.env).length = n := by rfl) (hst : (assignEach es X.env).findIdx? (·.1) = none := by rfl) : PG X (.Tuple es k pos) (gTup K n t) := by
  subst hK
  exact pg_tup hc h hn hst
end WK
/-! ## Part 2: defs that ask for the text of data (repr): nothing that guards a repr runs around them -/
namespace WK
open PySem PySem.Spec PyProof.Rows L2
structure GFn (P : Program) (w : World) (K : PySem.W.Frag) (mg : Str → Option Value) (base : Heap) (C : CXT) (k : Nat) (f : Addr) (fd : FuncData) (ps : List Str) (sp : Sp) : Prop where
  len : ∀ vs H Q E, sp vs H Q E → vs.length = ps.length
  go : ∀ (A : Around) (outer : List Env) (s : Shared) (H : Hp) (args : Args) (us : List Value) (vs : List V) (Q : VK) (E : XK), Room k A → A.guards = some [] → Env0 P w K mg base A outer s H →
    BindsTo s fd args (ps.zip us) → Vals vs us → sp vs H Q E → codeAny (model P w) A (.call (.ref f) args) (CR C outer P w H s Q E) s
theorem GFn.of {P : Program} {w : World} {K : PySem.W.Frag} {mg : Str → Option Value} {base : Heap} {C : CXT} {k : Nat} {f : Addr} {fd : FuncData} {ps : List Str} {sp : Sp} (F : FnOk P w K mg base C k f fd ps sp) : GFn P w K mg base C k f fd ps sp :=
  ⟨F.len, fun A outer s H args us vs Q E hr _ he hb hv hs => F.run A outer s H args us vs Q E hr he hb hv hs⟩
/-- the body rule -/
theorem gfn_of {P : Program} {w : World} {K : PySem.W.Frag} {mg : Str → Option Value} {base : Heap} {C : CXT} {k : Nat} {f : Addr} {x q : Str} {pa : Arguments} {bd : List Stmt} {sc : Scope} {fd : FuncData} {N ps : List Str} {sp : Sp}
    (F : FunD K x q pa bd sc [] [] f fd) (S : FnScope N ps sc) (len : ∀ vs H Q E, sp vs H Q E → vs.length = ps.length)
    (body : ∀ (cd : Value) (A : Around) (outer : List Env) (s : Shared) (H : Hp) (vs : List V) (Q : VK) (E : XK), Room k (A.deeper (envOfC q sc s.heap.objs.size f cd)) → (A.deeper (envOfC q sc s.heap.objs.size f cd)).guards = some [] → sp vs H Q E →
      ∃ t, PSs (cxOf C P w K mg base N q sc f cd A outer s H E) bd t ∧ t { nx := fun _ H' => Q .non H', rt := Q } (start N vs) H) : GFn P w K mg base C (k + 1) f fd ps sp := by
  obtain ⟨oc, od, dV, kV, doc, pm, an, cd, ct, osl, rfl, lk, hcd, _, _⟩ := F.ex
  refine ⟨len, fun A outer s H args us vs Q E room gd env0 bnd rel want => ?_⟩
  have len2 := len _ _ _ _ want
  have inK : K.In s.heap := env0.mod.kin.keeps fun b o z => (env0.bs b o z).1
  have nolim : s.heap.NoLimit := env0.mod.nolimit.keeps fun b o z => (env0.bs b o z).1
  have kinds : ∀ y ∈ ps.zip us, sc.names.lookup y.1 = some .local ∨ (sc.names.lookup y.1 = some .cell ∧ ((cellsFrom (s.heap.objs.size + 1) sc.names []).lookup y.1).isSome = true) := by
    rintro ⟨n, v⟩ hy
    cases S.par n (List.of_mem_zip hy).1 with
    | inl z => exact .inl z
    | inr z => exact .inr ⟨z, PySem.W.cellsFrom_some _ _ _ (.inl z)⟩
  refine codeAny_call_function room.depth (inK _ _ lk) rfl S.co S.gen rfl (PySem.W.codeRec_of inK hcd) (bnd _ _ _ _ ?_)
  refine wpAny_newFunctionEnv_cells S.kind kinds fun env' ee s1 x1 => ?_
  subst ee
  refine ⟨nolim.keeps x1.toInCall.keep, codeAny_func ?_⟩
  obtain ⟨t, ht, hq⟩ := body cd A outer s H vs Q E (room.deeper _) gd want
  have II : Inv (cxOf C P w K mg base N q sc f cd A outer s H E) [] (start N vs) H s1 := inv_start S room.hd env0 len2 rel x1
  refine wpAny_mono (ht.run [] s1 (start N vs) H _ II hq) (fun fl s2 hs => ?_) fun e s2 hs => hs
  cases fl with
  | ret u =>
    obtain ⟨v, σ2, H2, J, rv, hv⟩ := hs
    exact ⟨v, H2, J.os, J.bare, J.base, J.hok, rv, hv⟩
  | next =>
    obtain ⟨σ2, H2, J, hv⟩ := hs
    exact ⟨V.non, H2, J.os, J.bare, J.base, J.hok, rfl, hv⟩
  | brk =>
    obtain ⟨_, _, _, z⟩ := hs
    exact z.elim
  | cont =>
    obtain ⟨_, _, _, z⟩ := hs
    exact z.elim
theorem gfn_of0 {P : Program} {w : World} {K : PySem.W.Frag} {mg : Str → Option Value} {base : Heap} {k : Nat} {f : Addr} {x q : Str} {pa : Arguments} {bd : List Stmt} {sc : Scope} {fd : FuncData} {N ps : List Str} {sp : Sp}
    (F : FunD K x q pa bd sc [] [] f fd) (S : FnScope N ps sc) (len : ∀ vs H Q E, sp vs H Q E → vs.length = ps.length)
    (body : ∀ (cd : Value) (A : Around) (outer : List Env) (s : Shared) (H : Hp) (vs : List V) (Q : VK) (E : XK), Room k (A.deeper (envOfC q sc s.heap.objs.size f cd)) → (A.deeper (envOfC q sc s.heap.objs.size f cd)).guards = some [] → sp vs H Q E →
      ∃ t, PSs (cxOf CX0 P w K mg base N q sc f cd A outer s H E).nox bd t ∧ t { nx := fun _ H' => Q .non H', rt := Q } (start N vs) H) : GFn P w K mg base CX0 (k + 1) f fd ps sp :=
  gfn_of F S len fun cd A outer s H vs Q E hr gd h => by
    obtain ⟨t, h1, h2⟩ := body cd A outer s H vs Q E hr gd h
    exact ⟨t, h1.nox, h2⟩
structure OkG (P : Program) (w : World) (K : PySem.W.Frag) (mg : Str → Option Value) (base : Heap) (C : CXT) (k : Nat) (x : Str) (ps : List Str) (sp : Sp) : Prop where
  ex : ∃ fd, GFn P w K mg base C k (He.ga K x) fd ps sp ∧ Binds K fd ps []
  kp : PySem.W.keepIn K (.ref (He.ga K x)) = true
  at_ : mg x = some (.ref (He.ga K x))
theorem Ok.g {P : Program} {w : World} {K : PySem.W.Frag} {mg : Str → Option Value} {base : Heap} {C : CXT} {k : Nat} {x : Str} {ps : List Str} {sp : Sp} (O : Ok P w K mg base C k x ps sp) : OkG P w K mg base C k x ps sp := by
  obtain ⟨fd, F, B⟩ := O.ex
  exact ⟨⟨fd, .of F, B⟩, O.kp, O.at_⟩
theorem OkG.mk' {P : Program} {w : World} {K : PySem.W.Frag} {mg : Str → Option Value} {base : Heap} {C : CXT} {k : Nat} {x : Str} {N ps : List Str} {st : Stmt} {sp : Sp}
    (F : ∃ fd, FunD K x x (defArgs st) (defBody st) (defScope st) [] [] (He.ga K x) fd) (g : mg x = some (.ref (He.ga K x))) (S : FnScope N ps (defScope st)) (len : ∀ vs H Q E, sp vs H Q E → vs.length = ps.length)
    (hb : ∀ (kV doc pm : Value) (an : Option Addr) (cdv ct : Value) (us : List Value), us.length = ps.length → bindArgs (PySem.W.fnOf x x (defArgs st) (defBody st) (defScope st) .none kV doc pm an cdv ct) ⟨us, []⟩ = pure (ps.zip us))
    (hbody : ∀ (f : Addr) (cdv : Value) (A : Around) (outer : List Env) (s : Shared) (H : Hp) (vs : List V) (Q : VK) (E : XK), Room k (A.deeper (envOfC x (defScope st) s.heap.objs.size f cdv)) →
      (A.deeper (envOfC x (defScope st) s.heap.objs.size f cdv)).guards = some [] → sp vs H Q E →
      ∃ t, PSs (cxOf C P w K mg base N x (defScope st) f cdv A outer s H E) (defBody st) t ∧ t { nx := fun _ H' => Q .non H', rt := Q } (start N vs) H) : OkG P w K mg base C (k + 1) x ps sp := by
  obtain ⟨fd, F⟩ := F
  exact ⟨⟨fd, gfn_of F S len fun cdv A outer s H vs Q E => hbody _ cdv A outer s H vs Q E, F.bindsN hb⟩, F.kp, g⟩
theorem OkG.mk0 {P : Program} {w : World} {K : PySem.W.Frag} {mg : Str → Option Value} {base : Heap} {k : Nat} {x : Str} {N ps : List Str} {st : Stmt} {sp : Sp}
    (F : ∃ fd, FunD K x x (defArgs st) (defBody st) (defScope st) [] [] (He.ga K x) fd) (g : mg x = some (.ref (He.ga K x))) (S : FnScope N ps (defScope st)) (len : ∀ vs H Q E, sp vs H Q E → vs.length = ps.length)
    (hb : ∀ (kV doc pm : Value) (an : Option Addr) (cdv ct : Value) (us : List Value), us.length = ps.length → bindArgs (PySem.W.fnOf x x (defArgs st) (defBody st) (defScope st) .none kV doc pm an cdv ct) ⟨us, []⟩ = pure (ps.zip us))
    (hbody : ∀ (f : Addr) (cdv : Value) (A : Around) (outer : List Env) (s : Shared) (H : Hp) (vs : List V) (Q : VK) (E : XK), Room k (A.deeper (envOfC x (defScope st) s.heap.objs.size f cdv)) →
      (A.deeper (envOfC x (defScope st) s.heap.objs.size f cdv)).guards = some [] → sp vs H Q E →
      ∃ t, PSs (cxOf CX0 P w K mg base N x (defScope st) f cdv A outer s H E).nox (defBody st) t ∧ t { nx := fun _ H' => Q .non H', rt := Q } (start N vs) H) : OkG P w K mg base CX0 (k + 1) x ps sp :=
  OkG.mk' F g S len hb fun f cdv A outer s H vs Q E hr hgd h => by
    obtain ⟨t, h1, h2⟩ := hbody f cdv A outer s H vs Q E hr hgd h
    exact ⟨t, h1.nox, h2⟩
section
variable {X : Cx} {C : CXT} {k j : Nat} {ps : List Str} {sp : Sp} {E : XK} {x : Str} {p pos : Pos} {e : Expr} {es : List Expr} {t : TA}
theorem run_g {f : Addr} {fd : FuncData} {pins : List (Addr × Obj)} {σ : L2.St} {H : Hp} {s : Shared} {Q : VK} {us : List Value} {vs : List V} (F : GFn X.prog X.w X.K X.mg X.base C k f fd ps sp) (hr : Room k X.A) (gd : X.A.guards = some []) (hb : Binds X.K fd ps []) (hx : Passes C X E)
    (I : Inv X pins σ H s) (r : Vals vs us) (h : sp vs H Q E) : wpAny (model X.prog X.w) X.A (call (.ref f) us) (EP X pins σ Q) X.xe s := by
  have n1 : us.length = ps.length := by
    rw [← r.length]
    exact F.len _ _ _ _ h
  have b1 := hb s us I.kIn (by rw [List.append_nil]; exact n1)
  rw [List.append_nil] at b1
  refine wpAny_call (codeAny_mono (F.go X.A X.stack s H ⟨us, []⟩ us vs Q E hr gd I.env0 b1 r h) fun res s2 hq => ?_)
  match res, hq with
  | .error er, hq => exact hx pins σ H s er s2 I hq
  | .ok (.ret u), hq => exact I.after hq
  | .ok .next, hq => exact False.elim hq
  | .ok .brk, hq => exact False.elim hq
  | .ok .cont, hq => exact False.elim hq
theorem calGX (O : OkG X.prog X.w X.K X.mg X.base C k x ps sp) (hr : Room j X.A) (gd : X.A.guards = some []) (hx : Passes C X E) (ha : PA X (e :: es) t) (hj : k ≤ j := by decide) (hg : Gl X x := by rfl) (hdb : (x == ("__debug__" : Str)) = false := by decide)
    (he : starEach (e :: es) X.env = (false, eval e X.env) :: starEach es X.env := by rfl) (hpl : (backTo pos (starEach es X.env)).any (·.1) = false := by rfl) : PE X (.Call (.Name x p) (e :: es) [] pos) (tCal sp E t) := by
  obtain ⟨fd, F, B⟩ := O.ex
  refine ⟨fun pins s σ H Q I h => ?_⟩
  refine wpAny_Call_Name_kw (ld_glob I hg O.at_ ?_ hdb)
  refine PySem.W.callWith_K (h₀ := X.base) I.ok.mod.kin O.kp (thn (ha.run pos pins s σ H _ I h) fun us s1 ⟨vs, H1, I1, r, hq⟩ => ⟨I1.kIn, ?_⟩) he hpl
  exact run_g F (hr.mono hj) gd B hx I1 r hq
theorem calG (O : OkG X.prog X.w X.K X.mg X.base CX0 k x ps sp) (hr : Room j X.A) (gd : X.A.guards = some []) (ha : PA X (e :: es) t) (hj : k ≤ j := by decide) (hg : Gl X x := by rfl) (hdb : (x == ("__debug__" : Str)) = false := by decide)
    (he : starEach (e :: es) X.env = (false, eval e X.env) :: starEach es X.env := by rfl) (hpl : (backTo pos (starEach es X.env)).any (·.1) = false := by rfl) : PE X (.Call (.Name x p) (e :: es) [] pos) (tCal sp E0 t) :=
  calGX O hr gd pass0 ha hj hg hdb he hpl
/-- repr(x), data at any depth but dicts -/
def rRepr (K : PySem.W.Frag) : List V → Hp → VK → Prop := fun xs H Q => ∃ x d, xs = [x] ∧ Dp K H x d ∧ d.showable = true ∧ d.hasDict = false ∧ d.depth ≤ 60 ∧ d.shown.length ≤ sizeLine ∧ Q (.str d.shown) H
theorem reprD (K : PySem.W.Frag) {i : Nat} (hr : Room i X.A) (gd : X.A.guards = some []) (h : X.K = K := by rfl) : CallR X (.builtin "repr") (rRepr K) := by
  subst h
  intro pins s σ H xs us Q I r hw
  obtain ⟨x, d, rfl, hd, h1, h2, h3, h4, q⟩ := hw
  obtain ⟨u, rfl, ru⟩ := vals1 r
  cases hd with
  | non =>
    cases ru
    exact PySem.P.repr_of_none ⟨.str _, H, I.tok _, ⟨_, rfl⟩, q⟩
  | bl b =>
    cases ru
    exact PySem.P.repr_of_bool ⟨.str _, H, I.tok _, ⟨_, rfl⟩, q⟩
  | int n =>
    obtain ⟨t, rfl⟩ := ru
    exact PySem.P.repr_of_int (of_decide_eq_true h1) ⟨.str _, H, I.tok _, ⟨_, rfl⟩, q⟩
  | str z =>
    obtain ⟨t, rfl⟩ := ru
    exact PySem.P.repr_of_str ⟨.str _, H, I.tok _, ⟨_, rfl⟩, q⟩ h4
  | @lst a zs ds hs ha =>
    cases ru
    obtain ⟨as, rd⟩ := Dp.reads I _ _ _ (Dp.lst hs ha) (show RelV (.ref a) (.ref a) from rfl)
    refine repr_of_reads' (h₀ := s.heap) rd h1 (PyData.noDict_hsm h2) gd ?_ (fun _ _ z => z) (fun h' u tk k => ⟨.str _, H, I.kept (t' := tk) k, ⟨u, rfl⟩, q⟩) h4
    have := hr.units
    omega
  | @tup a zs ds hs ha =>
    cases ru
    obtain ⟨as, rd⟩ := Dp.reads I _ _ _ (Dp.tup hs ha) (show RelV (.ref a) (.ref a) from rfl)
    refine repr_of_reads' (h₀ := s.heap) rd h1 (PyData.noDict_hsm h2) gd ?_ (fun _ _ z => z) (fun h' u tk k => ⟨.str _, H, I.kept (t' := tk) k, ⟨u, rfl⟩, q⟩) h4
    have := hr.units
    omega
end
/-- the law's own call -/
theorem law_callG {P : Program} {w : World} {K : PySem.W.Frag} {mg mb : Str → Option Value} {k : Nat} {fa a : Addr} {fd : FuncData} {x : Str} {sp : Sp} {s₁ : Shared} {vs : List Value} {ns : List Int}
    (inK : K.In s₁.heap) (hmg : s₁.heap.Ns mainGlobals mg) (hmb : s₁.heap.Ns builtinsNs mb) (boot : ∀ x : Str, x ≠ "__name__" → mb x = bootBuiltins x) (nolim : s₁.heap.NoLimit) (gens : s₁.gens = #[])
    (ha : s₁.heap.get? a = some { cls := .type "list", data := .seq vs.toArray }) (hi : IntsAre vs ns) (hl : ns.length ≤ sizeLine) (room : Room k callerA)
    (F : ∀ base : Heap, K.In base → base.Ns mainGlobals mg → GFn P w K mg base CX0 k fa fd [x] sp) (bnd : ∀ (s : Shared) (u : Value), BindsTo s fd ⟨[u], []⟩ [(x, u)])
    (want : ∀ H : Hp, Only H → SqL K H a (ns.map V.int) → sp [.ref a] H (fun v _ => v = .bl true) fun _ _ _ => False) :
    codeAny (model P w) callerA (.call (.ref fa) ⟨[.ref a], []⟩) (fun r s2 => r = .ok (.ret (.bool true)) ∧ OldK s₁.heap s2.heap ∧ s2.os = s₁.os ∧ AllBare s2.gens) s₁ := by
  have rel := vals_ints hi
  have lens := hi.length
  have main : ∀ H : Hp, Only H → SqL K H a (ns.map V.int) → HOk P w H s₁.heap → (∀ b, H b ≠ none → b = a) → (H a ≠ none → K.lookup a = none) →
      codeAny (model P w) callerA (.call (.ref fa) ⟨[.ref a], []⟩) (fun r s2 => r = .ok (.ret (.bool true)) ∧ OldK s₁.heap s2.heap ∧ s2.os = s₁.os ∧ AllBare s2.gens) s₁ := by
    intro H only seq hok onlyA notK
    have dict0 : ∀ {b : Addr} {o : Obj} {es : Array DictEntry} {ep : Nat}, s₁.heap.get? b = some o → o.data = .dict es ep → H b = none := by
      intro b o es ep e dd
      cases hb : H b with
      | none => rfl
      | some u =>
        have eb : b = a := onlyA b (by rw [hb]; exact Option.some_ne_none u)
        rw [eb, ha] at e
        have eo := Option.some.inj e
        rw [← eo] at dd
        cases dd
    have nsT : ∀ {b : Addr} {m : Str → Option Value}, s₁.heap.Ns b m → (hidT s₁.heap H).Ns b m := by
      rintro b m ⟨o, es, ep, e, dd, rr⟩
      exact ⟨o, es, ep, hidT_get e (dict0 e dd), dd, rr⟩
    have inT : K.In (hidT s₁.heap H) := fun b o e => hidT_get (inK b o e) (by
      cases hb : H b with
      | none => rfl
      | some u =>
        have eb : b = a := onlyA b (by rw [hb]; exact Option.some_ne_none u)
        have nk := notK (by rw [← eb, hb]; exact Option.some_ne_none u)
        rw [eb, nk] at e
        cases e)
    have md : Mod K mg (hidT s₁.heap H) := by
      obtain ⟨mc, z1, z2⟩ := nolim
      exact ⟨inT, nsT hmg, ⟨mb, nsT hmb, boot⟩, ⟨mc, nsT z1, z2⟩⟩
    have env0 : Env0 P w K mg (hidT s₁.heap H) callerA [] s₁ H := ⟨rfl, md, fun b o e => of_hidT e, Nat.le_of_eq (hidT_size _ _), trivial, fun b hb => (nomatch hb), hok, .of_eq gens⟩
    refine codeAny_mono ((F _ inT (nsT hmg)).go callerA [] s₁ H ⟨[.ref a], []⟩ [.ref a] [.ref a] _ _ room rfl env0 (bnd s₁ (.ref a)) (.cons rfl .nil) (want H only seq)) fun r s2 h => ?_
    match r, h with
    | .error e, h => exact h.elim
    | .ok .next, h => exact h.elim
    | .ok .brk, h => exact h.elim
    | .ok .cont, h => exact h.elim
    | .ok (.ret u), h =>
      obtain ⟨v, H2, os2, bare, un, hok2, rv, hv⟩ := h
      have hv2 : v = .bl true := hv
      rw [hv2] at rv
      have hu : u = Value.bool true := rv
      rw [hu]
      refine ⟨rfl, OldK.of_keep fun b o e => ?_, os2, bare⟩
      cases hb : H b with
      | none => exact un.keep b o e hb (fun z => nomatch z) (fun z => nomatch z)
      | some u2 =>
        rcases only b with z | ⟨o3, xs, z⟩
        · rw [hb] at z
          cases z
        · have z2 := un.frzs b o3 _ z
          have y1 := (hok b _ z).1
          have y2 := (hok2 b _ z2).1
          rw [e] at y1
          rw [Option.some.inj y1]
          exact y2
  cases lk : K.lookup a with
  | some o =>
    have e := inK a o lk
    rw [ha] at e
    rw [← Option.some.inj e] at lk
    refine main (fun _ => none) (fun _ => .inl rfl) (.inr ⟨_, vs.toArray, _, lk, rfl, rfl, rfl, ?_, by simpa using rel⟩) (fun b u z => (nomatch z)) (fun b z => absurd rfl z) fun z => absurd rfl z
    rw [List.size_toArray, lens]
    exact hl
  | none =>
    refine main (fun b => if b = a then some (.frz { cls := .type "list", data := .seq vs.toArray } (.lst (ns.map V.int))) else none) (fun b => ?_) (.inl (.inr ⟨_, if_pos rfl⟩)) (fun b u z => ?_) (fun b z => ?_) fun _ => lk
    · by_cases eb : b = a
      · exact .inr ⟨_, _, if_pos eb⟩
      · exact .inl (if_neg eb)
    · by_cases eb : b = a
      · have z2 := (if_pos eb).symm.trans z
        have z3 := Option.some.inj z2
        rw [← z3, eb]
        exact ⟨ha, by rw [List.length_map]; exact hl, vs, _, rel, ha⟩
      · have z2 := (if_neg eb).symm.trans z
        cases z2
    · by_cases eb : b = a
      · exact eb
      · exact absurd (if_neg eb) z
theorem walkG {l : PySem.W.OpenLaw} {n k : Nat} {q : Program} {loose : List Str} {XP : (Str → Option Value) → Heap → Prop} {YP : World → Heap → Prop} {d : DefRec} {x : Str}
    (hn : l.most = some n) (hn2 : n ≤ sizeLine) (hdf : d.params.defaults = []) (room : Room k callerA)
    (F : ∀ (w : World) (mg : Str → Option Value) (fa : Addr) (h : Heap), YP w h → h.Ns mainGlobals mg → mg d.name = some (.ref fa) →
      ∃ (K : PySem.W.Frag) (fd : FuncData) (sp : Sp), K.In h ∧ (∀ (s : Shared) (u : Value), BindsTo s fd ⟨[u], []⟩ [(x, u)]) ∧
        (∀ (H : Hp) (a : Addr) (ns : List Int), ns.length ≤ n → Only H → SqL K H a (ns.map V.int) → sp [.ref a] H (fun v _ => v = .bl true) fun _ _ _ => False) ∧
        ∀ base : Heap, K.In base → base.Ns mainGlobals mg → GFn l.prog w K mg base CX0 k fa fd [x] sp) :
    PySem.W.WalkO q loose XP YP l.row.toRowW d [] (fun f vs => PySem.call f vs) := by
  refine Att.attach_call hn hdf fun w s₀ s₁ mg mb fa o pm cd doc a vs ns G Y ho hd hcd hmg hobj hints hlen hg => ?_
  obtain ⟨K, fd, sp, inK, hb, want, hF⟩ := F w mg fa _ Y G.T.g hmg
  exact law_callG inK G.T.g G.T.b G.T.builtins G.T.nolimit hg hobj hints (Nat.le_trans hlen hn2) room hF hb fun H only seq => want H a ns hlen only seq
end WK
/-! ## Part 3: what stays in the heap -/
namespace WK
open PySem PySem.Spec PyProof.Rows L2
/-- all that H tells but of a stays told -/
def But (a : Addr) (H H' : Hp) : Prop := ∀ b o, b ≠ a → H b = some o → H' b = some o
theorem But.refl {a : Addr} {H : Hp} : But a H H := fun _ _ _ h => h
theorem But.trans {a : Addr} {H H1 H2 : Hp} (x : But a H H1) (y : But a H1 H2) : But a H H2 := fun b o n h => y b o n (x b o n h)
theorem But.at {a : Addr} {H H' : Hp} {o : HO} (x : But a H H') : But a H (upd H' a o) := fun b u n h => by
  rw [upd_ne n]
  exact x b u n h
theorem But.new {a p : Addr} {H H' : Hp} {o : HO} (x : But a H H') (np : H' p = none) : But a H (upd H' p o) := fun b u n h => by
  have h2 := x b u n h
  rw [upd_ne (ne_of_none h2 np)]
  exact h2
theorem But.of_same {a : Addr} {H H' : Hp} (x : Same H H') : But a H H' := fun b o _ h => x b o h
theorem But.fresh {a p : Addr} {H H' : Hp} (x : But a H H') (n : p ≠ a) (h : H' p = none) : H p = none := by
  cases q : H p with
  | none => rfl
  | some o =>
    have := x p o n q
    rw [h] at this
    cases this
theorem But.sqT {K : PySem.W.Frag} {a t : Addr} {H H' : Hp} {zs xs : List V} (x : But a H H') (ha : H a = some (.lst zs)) (h : SqT K H t xs) : SqT K H' t xs := by
  rcases h with (h | ⟨o, h⟩) | h
  · exact .inl (.inl (x t _ (ne_of h ha (by intro z; cases z)) h))
  · exact .inl (.inr ⟨o, x t _ (ne_of h ha (by intro z; cases z)) h⟩)
  · exact .inr h
theorem But.sqL {K : PySem.W.Frag} {a t : Addr} {H H' : Hp} {xs : List V} (x : But a H H') (n : t ≠ a) (h : SqL K H t xs) : SqL K H' t xs := by
  rcases h with (h | ⟨o, h⟩) | h
  · exact .inl (.inl (x t _ n h))
  · exact .inl (.inr ⟨o, x t _ n h⟩)
  · exact .inr h
theorem same_new {H : Hp} {p : Addr} {o : HO} (np : H p = none) : Same H (upd H p o) := fun b u e => by
  rw [upd_ne (ne_of_none e np)]
  exact e
theorem _root_.L2.Same.new {H H' : Hp} {p : Addr} {o : HO} (x : Same H H') (np : H' p = none) : Same H (upd H' p o) := x.trans (same_new np)
theorem _root_.L2.Same.own {H H' : Hp} {p : Addr} {o : HO} (x : Same H H') (np : H p = none) : Same H (upd H' p o) := fun b u e => by
  rw [upd_ne (ne_of_none e np)]
  exact x b u e
theorem _root_.L2.Same.sqT {K : PySem.W.Frag} {t : Addr} {H H' : Hp} {xs : List V} (x : Same H H') (h : SqT K H t xs) : SqT K H' t xs := by
  rcases h with (h | ⟨o, h⟩) | h
  · exact .inl (.inl (x t _ h))
  · exact .inl (.inr ⟨o, x t _ h⟩)
  · exact .inr h
theorem sqT_of {K : PySem.W.Frag} {H : Hp} {a : Addr} {xs : List V} (h : H a = some (.tup xs)) : SqT K H a xs := .inl (.inl h)
theorem sqL_of {K : PySem.W.Frag} {H : Hp} {a : Addr} {xs : List V} (h : H a = some (.lst xs)) : SqL K H a xs := .inl (.inl h)
theorem upd_at {H : Hp} {a b : Addr} {o u : HO} (n : b ≠ a) (h : H b = some u) : upd H a o b = some u := by
  rw [upd_ne n]
  exact h
theorem upd_new {H : Hp} {a b : Addr} {o u : HO} (n : H a = none) (h : H b = some u) : upd H a o b = some u := by
  rw [upd_ne (ne_of_none h n)]
  exact h
/-! ### sizes -/
theorem pow_nat (k : Nat) : (2 : Int) ^ k = ((2 ^ k : Nat) : Int) := PySem.W.kbt_cast k ▸ rfl
theorem pow_pos' (k : Nat) : (0 : Int) < 2 ^ k := PySem.W.kbt_pos k
theorem abs_pow (k : Nat) : ((2 : Int) ^ k).natAbs = 2 ^ k := by
  rw [pow_nat, Int.natAbs_natCast]
theorem cdiv_pow {i : Int} {k : Nat} (h : k ≤ 8000) : CDivW i (2 ^ k) :=
  wide_div (b := k + 1) (pow_pos' k) (by rw [abs_pow]; exact Nat.pow_lt_pow_right (by omega) (by omega)) (by omega) (by omega)
theorem cdiv_of {i j : Int} {k : Nat} (h0 : 0 < j) (h : j < 2 ^ k) (hk : k ≤ 8000) : CDivW i j := by
  refine wide_div (b := k + 1) h0 ?_ (by omega) (by omega)
  have h1 : ((j.natAbs : Nat) : Int) < ((2 ^ k : Nat) : Int) := by
    rw [← pow_nat]
    omega
  have h2 := Int.ofNat_lt.mp h1
  exact Nat.lt_trans h2 (Nat.pow_lt_pow_right (by omega) (by omega))
theorem abs_lt {i : Int} {k : Nat} (h0 : -(2 ^ k) < i) (h : i < 2 ^ k) : i.natAbs < 2 ^ k := by
  have h1 : ((i.natAbs : Nat) : Int) < ((2 ^ k : Nat) : Int) := by
    rw [← pow_nat]
    omega
  exact Int.ofNat_lt.mp h1
theorem nn_lt {i : Int} {k : Nat} (h0 : 0 ≤ i) (h : i < 2 ^ k) : i.natAbs < 2 ^ k := abs_lt (by have := pow_pos' k; omega) h
theorem mulx_of {i j : Int} {a b : Nat} (h0 : 0 ≤ i) (hi : i < 2 ^ a) (h1 : 0 ≤ j) (hj : j < 2 ^ b) (h : a + b ≤ 100000000) : CMulX i j := mulx_ok (nn_lt h0 hi) (nn_lt h1 hj) (by omega)
theorem mul_lt_pow {i j : Int} {a b : Nat} (h0 : 0 ≤ i) (hi : i < 2 ^ a) (h1 : 0 ≤ j) (hj : j < 2 ^ b) : i * j < 2 ^ (a + b) := by
  have h2 := wide_lt (nn_lt h0 hi) (nn_lt h1 hj)
  have h3 : ((i * j).natAbs : Int) < ((2 ^ (a + b) : Nat) : Int) := Int.ofNat_lt.mpr h2
  rw [← pow_nat] at h3
  have := Int.mul_nonneg h0 h1
  omega
theorem pow_le {a b : Nat} (h : a ≤ b) : (2 : Int) ^ a ≤ 2 ^ b := by
  rw [pow_nat, pow_nat]
  exact Int.ofNat_le.mpr (Nat.pow_le_pow_right (by omega) h)
theorem lt_pow {i : Int} {a b : Nat} (h : i < 2 ^ a) (hab : a ≤ b) : i < 2 ^ b := Int.lt_of_lt_of_le h (pow_le hab)
theorem le_size {n : Nat} (h : n ≤ 100000) : n ≤ sizeLine := Nat.le_trans h (by decide)
theorem lt_size {n : Nat} (h : n < 100000) : n < sizeLine := Nat.lt_of_lt_of_le h (by decide)
theorem scal_ii {i j : Int} : scal (.int i) (.int j) = true := rfl
theorem scal_bb {i j : Bool} : scal (.bl i) (.bl j) = true := rfl
theorem scal_ss {i j : Str} : scal (.str i) (.str j) = true := rfl
theorem scal_nn : scal .non .non = true := rfl
theorem scal_in {i : Int} : scal (.int i) .non = true := rfl
theorem scal_ni {i : Int} : scal .non (.int i) = true := rfl
theorem scal_sn {i : Str} : scal (.str i) .non = true := rfl
theorem scal_ns {i : Str} : scal .non (.str i) = true := rfl
theorem scal_bn {i : Bool} : scal (.bl i) .non = true := rfl
theorem scal_nb {i : Bool} : scal .non (.bl i) = true := rfl
theorem scal_is {i : Int} {j : Str} : scal (.int i) (.str j) = true := rfl
theorem scal_si {i : Int} {j : Str} : scal (.str j) (.int i) = true := rfl
theorem ref_inj {a b : Addr} (h : V.ref a = V.ref b) : a = b := by
  cases h
  rfl
theorem int_eq {i j : Int} (h : i = j) : V.int i = V.int j := by rw [h]
theorem cshl_of {i : Int} {a k : Nat} (h0 : 0 ≤ i) (h : i < 2 ^ a) (hk : a + k ≤ 134217728) : CShl i (k : Int) := by
  have h1 := PyProof.Rows.intBits_le (nn_lt h0 h)
  refine ⟨Int.natCast_nonneg _, ?_⟩
  have e : (2 : Int) ^ 27 = 134217728 := by decide
  rw [e]
  omega
theorem But.keepL {K : PySem.W.Frag} {p s : Addr} {H H' : Hp} {xs : List V} (x : But p H H') (np : H p = none) (h : SqL K H s xs) : SqL K H' s xs := by
  rcases h with (h | ⟨o, h⟩) | h
  · exact .inl (.inl (x s _ (ne_of_none h np) h))
  · exact .inl (.inr ⟨o, x s _ (ne_of_none h np) h⟩)
  · exact .inr h
theorem But.own {p : Addr} {H H' : Hp} {o : HO} (x : But p H H') : But p H (upd H' p o) := x.at
end WK
/-! ## Part 4: loops and comprehensions, apart from what they walk -/
namespace WK
open PySem PySem.Spec PyProof.Rows L2
def Loop (J : It) (g : TG) (tb : TS) (D : Ends) (σ : L2.St) (H : Hp) : Prop := ∃ W : Nat → Nat → L2.St → Hp → Prop, (∃ m, W 0 m σ H) ∧ ∀ i m σ H, W i m σ H →
  (J.stop i H ∧ D.nx σ H) ∨ (J.go i H ∧ ∃ N : L2.St → Hp → Prop, (∀ σ' H', N σ' H' → ∃ m', m' < m ∧ W (i + 1) m' σ' H') ∧ ∀ x H', J.yld i H x H' → g x σ H' fun σ2 H2 => tb { D with nx := N, ct := N, bk := D.nx } σ2 H2)
theorem for_eq (wi : TI) (g : TG) (tb : TS) (D : Ends) (σ : L2.St) (H : Hp) : tFor wi g tb D σ H = wi σ H fun J H1 => Loop J g tb D σ H1 := rfl
def CompL (J : It) (g : TG) (tt : TT) (te : TE) (vs : List Nat) (σ : L2.St) (H1 : Hp) (Q : VK) : Prop := ∀ D, H1 D = none → ∃ W : Nat → Nat → Hp → Prop, (∃ m, W 0 m (upd H1 D (.lst []))) ∧ ∀ i m H, W i m H →
  (J.stop i H ∧ Q (.ref D) H) ∨ (J.go i H ∧ ∃ Nx : Hp → Prop, (∀ H', Nx H' → ∃ m', m' < m ∧ W (i + 1) m' H') ∧ ∀ x H', J.yld i H x H' → g x (wipe σ vs) H' fun σ2 H2 => wipe σ2 vs = wipe σ vs ∧ tt σ2 H2 fun b H3 =>
    if b = true then te σ2 H3 fun y H4 => ∃ acc, H4 D = some (.lst acc) ∧ acc.length < sizeLine ∧ Nx (upd H4 D (.lst (acc ++ [y]))) else Nx H3)
theorem lc_eq (wi : TI) (g : TG) (tt : TT) (te : TE) (vs : List Nat) (σ : L2.St) (H : Hp) (Q : VK) : tLc wi g tt te vs σ H Q = wi σ H fun J H1 => CompL J g tt te vs σ H1 Q := rfl
theorem yes_eq (σ : L2.St) (H : Hp) (Q : Bool → Hp → Prop) : tYes σ H Q = Q true H := rfl
section
variable {K : PySem.W.Frag} {g : TG} {tb : TS} {D : Ends} {σ : L2.St} {H : Hp}
/-- over a range -/
theorem loop_r {lo : Int} {n : Nat} (Pv : Nat → L2.St → Hp → Prop) (h0 : Pv 0 σ H) (hs : ∀ i σ H, i < n → Pv i σ H → g (.int (lo + i)) σ H fun σ2 H2 => tb { D with nx := Pv (i + 1), ct := Pv (i + 1), bk := D.nx } σ2 H2)
    (hd : ∀ σ H, Pv n σ H → D.nx σ H) : Loop (Itr lo n) g tb D σ H := for_range Pv h0 hs hd
theorem loop_r0 {n : Nat} (Pv : Nat → L2.St → Hp → Prop) (h0 : Pv 0 σ H) (hs : ∀ (i : Nat) σ H, i < n → Pv i σ H → g (.int (i : Int)) σ H fun σ2 H2 => tb { D with nx := Pv (i + 1), ct := Pv (i + 1), bk := D.nx } σ2 H2)
    (hd : ∀ σ H, Pv n σ H → D.nx σ H) : Loop (Itr 0 n) g tb D σ H := for_range Pv h0 (fun i σ H hi p => by rw [Int.zero_add]; exact hs i σ H hi p) hd
/-- over a list, a tuple that stand still -/
theorem loop_l {a : Addr} {xs : List V} (Pv : Nat → L2.St → Hp → Prop) (h0 : Pv 0 σ H) (hl : ∀ i σ H, i ≤ xs.length → Pv i σ H → SqL K H a xs)
    (hs : ∀ i x σ H, xs[i]? = some x → Pv i σ H → g x σ H fun σ2 H2 => tb { D with nx := Pv (i + 1), ct := Pv (i + 1), bk := D.nx } σ2 H2) (hd : ∀ σ H, Pv xs.length σ H → D.nx σ H) : Loop (Itl K a) g tb D σ H := for_list Pv h0 hl hs hd
theorem loop_t {a : Addr} {xs : List V} (Pv : Nat → L2.St → Hp → Prop) (h0 : Pv 0 σ H) (hl : ∀ i σ H, i ≤ xs.length → Pv i σ H → SqT K H a xs)
    (hs : ∀ i x σ H, xs[i]? = some x → Pv i σ H → g x σ H fun σ2 H2 => tb { D with nx := Pv (i + 1), ct := Pv (i + 1), bk := D.nx } σ2 H2) (hd : ∀ σ H, Pv xs.length σ H → D.nx σ H) : Loop (Itt K a) g tb D σ H := for_tup Pv h0 hl hs hd
variable {tt : TT} {te : TE} {vs : List Nat} {Q : VK}
theorem comp_r {lo : Int} {n : Nat} (Pv : Addr → Nat → Hp → Prop) (h0 : ∀ D, H D = none → Pv D 0 (upd H D (.lst [])))
    (hs : ∀ D i H', H D = none → i < n → Pv D i H' → g (.int (lo + i)) (wipe σ vs) H' fun σ2 H2 => wipe σ2 vs = wipe σ vs ∧ tt σ2 H2 fun b H3 =>
      if b = true then te σ2 H3 fun y H4 => ∃ acc, H4 D = some (.lst acc) ∧ acc.length < sizeLine ∧ Pv D (i + 1) (upd H4 D (.lst (acc ++ [y]))) else Pv D (i + 1) H3) (hd : ∀ D H', H D = none → Pv D n H' → Q (.ref D) H') : CompL (Itr lo n) g tt te vs σ H Q :=
  fun D hD => lc_range (Pv D) (h0 D hD) (fun i H' => hs D i H' hD) fun H' => hd D H' hD
theorem comp_l {a : Addr} {xs : List V} (Pv : Addr → Nat → Hp → Prop) (h0 : ∀ D, H D = none → Pv D 0 (upd H D (.lst []))) (hl : ∀ D i H', H D = none → i ≤ xs.length → Pv D i H' → SqL K H' a xs)
    (hs : ∀ D i x H', H D = none → xs[i]? = some x → Pv D i H' → g x (wipe σ vs) H' fun σ2 H2 => wipe σ2 vs = wipe σ vs ∧ tt σ2 H2 fun b H3 =>
      if b = true then te σ2 H3 fun y H4 => ∃ acc, H4 D = some (.lst acc) ∧ acc.length < sizeLine ∧ Pv D (i + 1) (upd H4 D (.lst (acc ++ [y]))) else Pv D (i + 1) H3) (hd : ∀ D H', H D = none → Pv D xs.length H' → Q (.ref D) H') : CompL (Itl K a) g tt te vs σ H Q :=
  fun D hD => lc_list (Pv D) (h0 D hD) (fun i H' => hl D i H' hD) (fun i x H' => hs D i x H' hD) fun H' => hd D H' hD
theorem comp_t {a : Addr} {xs : List V} (Pv : Addr → Nat → Hp → Prop) (h0 : ∀ D, H D = none → Pv D 0 (upd H D (.lst []))) (hl : ∀ D i H', H D = none → i ≤ xs.length → Pv D i H' → SqT K H' a xs)
    (hs : ∀ D i x H', H D = none → xs[i]? = some x → Pv D i H' → g x (wipe σ vs) H' fun σ2 H2 => wipe σ2 vs = wipe σ vs ∧ tt σ2 H2 fun b H3 =>
      if b = true then te σ2 H3 fun y H4 => ∃ acc, H4 D = some (.lst acc) ∧ acc.length < sizeLine ∧ Pv D (i + 1) (upd H4 D (.lst (acc ++ [y]))) else Pv D (i + 1) H3) (hd : ∀ D H', H D = none → Pv D xs.length H' → Q (.ref D) H') : CompL (Itt K a) g tt te vs σ H Q :=
  fun D hD => lc_tup (Pv D) (h0 D hD) (fun i H' => hl D i H' hD) (fun i x H' => hs D i x H' hD) fun H' => hd D H' hD
/-- items that are reckoned and make nothing: the list of them -/
theorem comp_r_map {lo : Int} {n : Nat} (f : Nat → V) (hn : n < 100000)
    (hs : ∀ (i : Nat) H' (Qk : VK), i < n → Same H H' → Qk (f i) H' → g (.int (lo + i)) (wipe σ vs) H' fun σ2 H2 => wipe σ2 vs = wipe σ vs ∧ tt σ2 H2 fun b H3 => if b = true then te σ2 H3 Qk else False)
    (hd : ∀ D, H D = none → Q (.ref D) (upd H D (.lst ((List.range n).map f)))) (mt : ∀ σ H (R R' : Bool → Hp → Prop), (∀ b H', R b H' → R' b H') → tt σ H R → tt σ H R')
    (mg : ∀ v σ H (R R' : L2.St → Hp → Prop), (∀ σ' H', R σ' H' → R' σ' H') → g v σ H R → g v σ H R') : CompL (Itr lo n) g tt te vs σ H Q := by
  refine comp_r (fun D i H' => H' = upd H D (.lst ((List.range i).map f))) (fun D hD => rfl) (fun D i H' hD hi e => ?_) (fun D H' hD e => by rw [e]; exact hd D hD)
  subst e
  refine mg _ _ _ _ _ (fun σ2 H2 h => ⟨h.1, mt _ _ _ _ (fun b H3 h3 => ?_) h.2⟩) (hs i _ (fun y H4 => ∃ acc, H4 D = some (.lst acc) ∧ acc.length < sizeLine ∧ upd H4 D (.lst (acc ++ [y])) = upd H D (.lst ((List.range (i + 1)).map f))) hi (same_new hD) ?_)
  · cases b with
    | true => exact h3
    | false => exact h3.elim
  · refine ⟨_, upd_same, ?_, ?_⟩
    · rw [List.length_map, List.length_range]
      exact lt_size (by omega)
    · rw [upd_upd, List.range_succ, List.map_append]
      rfl
end
/-! ### where a reading is cut -/
def tSeqB (t u : TS) : TS := tSeq t u
theorem pss_consB {X : Cx} {st : Stmt} {rest : List Stmt} {t u : TS} (h1 : PS X st t) (h2 : PSs X rest u) : PSs X (st :: rest) (tSeqB t u) := pss_cons h1 h2
/-- the first part leads to what I tells, and what I tells is enough for the rest -/
theorem seq_by {t u : TS} {D : Ends} {σ : L2.St} {H : Hp} (I : L2.St → Hp → Prop) (h2 : ∀ σ' H', I σ' H' → u D σ' H') (h1 : ∀ k : L2.St → Hp → Prop, (∀ σ' H', I σ' H' → k σ' H') → t { D with nx := k } σ H) : tSeqB t u D σ H := h1 _ h2
end WK
/-! ## the mathematics of blocks and middles -/
namespace WK
theorem lo_iff {s lo i : Int} (hs : 0 < s) : (lo + s - 1) / s ≤ i ↔ lo ≤ i * s := by
  have h := Int.ediv_lt_iff_lt_mul (a := lo + s - 1) (b := i + 1) hs
  have e : (i + 1) * s = i * s + s := by rw [Int.add_mul, Int.one_mul]
  rw [e] at h
  constructor
  · intro z
    have := h.mp (by omega)
    omega
  · intro z
    have := h.mpr (by omega)
    omega
theorem hi_iff {s hi i : Int} (hs : 0 < s) : i + 1 ≤ (hi + 1) / s ↔ (i + 1) * s - 1 ≤ hi := by
  have h := Int.le_ediv_iff_mul_le (a := i + 1) (b := hi + 1) hs
  constructor
  · intro z
    have := h.mp z
    omega
  · intro z
    exact h.mpr (by omega)
/-- the blocks of size s that lie within lo .. hi -/
def blk (s lo hi : Int) : Int := if (hi + 1) / s - (lo + s - 1) / s > 0 then (hi + 1) / s - (lo + s - 1) / s else 0
/-- .. counted one by one -/
def cntB (s lo hi : Int) : Nat → Int
  | 0 => 0
  | i + 1 => cntB s lo hi i + (if (decide (lo ≤ (i : Int) * s) && decide (((i : Int) + 1) * s - 1 ≤ hi)) = true then 1 else 0)
theorem cntB_eq {s lo hi : Int} (hs : 0 < s) (h0 : 0 ≤ lo) : ∀ i : Nat, ∃ m c : Int, m = (if (i : Int) ≤ (hi + 1) / s then (i : Int) else (hi + 1) / s) ∧ c = (lo + s - 1) / s ∧ 0 ≤ c ∧ cntB s lo hi i = (if m - c > 0 then m - c else 0)
  | 0 => by
    have hc : 0 ≤ (lo + s - 1) / s := Int.ediv_nonneg (by omega) (by omega)
    refine ⟨_, _, rfl, rfl, hc, ?_⟩
    have q : ¬ (if ((0 : Nat) : Int) ≤ (hi + 1) / s then ((0 : Nat) : Int) else (hi + 1) / s) - (lo + s - 1) / s > 0 := by
      simp only [Int.natCast_zero]
      split <;> omega
    rw [if_neg q]
    rfl
  | i + 1 => by
    obtain ⟨m, c, em, ec, hc, e⟩ := cntB_eq hs h0 i
    refine ⟨_, c, rfl, ec, hc, ?_⟩
    have a1 := lo_iff (lo := lo) (i := (i : Int)) hs
    have a2 := hi_iff (hi := hi) (i := (i : Int)) hs
    rw [← ec] at a1
    generalize (hi + 1) / s = d at em a2 ⊢
    show cntB s lo hi i + _ = _
    rw [e, em]
    have e1 : ((i + 1 : Nat) : Int) = (i : Int) + 1 := Int.natCast_succ i
    rw [e1]
    by_cases b1 : lo ≤ (i : Int) * s
    · have b1' := a1.mpr b1
      by_cases b2 : ((i : Int) + 1) * s - 1 ≤ hi
      · have b2' := a2.mpr b2
        rw [if_pos (show (decide (lo ≤ (i : Int) * s) && decide (((i : Int) + 1) * s - 1 ≤ hi)) = true by rw [decide_eq_true b1, decide_eq_true b2]; rfl)]
        rw [if_pos (show (i : Int) ≤ d by omega), if_pos (show (i : Int) + 1 ≤ d by omega)]
        by_cases q : (i : Int) - c > 0
        · rw [if_pos q, if_pos (by omega)]
          omega
        · rw [if_neg q, if_pos (by omega)]
          omega
      · have b2' : ¬ (i : Int) + 1 ≤ d := fun z => b2 (a2.mp z)
        rw [if_neg (show ¬ (decide (lo ≤ (i : Int) * s) && decide (((i : Int) + 1) * s - 1 ≤ hi)) = true by rw [decide_eq_false b2, Bool.and_false]; exact Bool.false_ne_true)]
        rw [if_neg b2', Int.add_zero]
        by_cases q : (i : Int) ≤ d
        · rw [if_pos q]
          have : (i : Int) = d := by omega
          rw [this]
        · rw [if_neg q]
    · have b1' : ¬ c ≤ (i : Int) := fun z => b1 (a1.mp z)
      rw [if_neg (show ¬ (decide (lo ≤ (i : Int) * s) && decide (((i : Int) + 1) * s - 1 ≤ hi)) = true by rw [decide_eq_false b1, Bool.false_and]; exact Bool.false_ne_true), Int.add_zero]
      have q1 : ¬ (if (i : Int) ≤ d then (i : Int) else d) - c > 0 := by
        split <;> omega
      have q2 : ¬ (if (i : Int) + 1 ≤ d then (i : Int) + 1 else d) - c > 0 := by
        split <;> omega
      rw [if_neg q1, if_neg q2]
/-- all blocks of an axis are asked -/
theorem cntB_all {s lo hi : Int} {n : Nat} (hs : 0 < s) (h0 : 0 ≤ lo) (hn : hi < (n : Int) * s) : cntB s lo hi n = blk s lo hi := by
  obtain ⟨m, c, em, ec, hc, e⟩ := cntB_eq (hi := hi) hs h0 n
  have hd : (hi + 1) / s ≤ (n : Int) := by
    have := (Int.ediv_lt_iff_lt_mul (a := hi + 1) (b := (n : Int) + 1) hs).mpr (by rw [Int.add_mul, Int.one_mul]; omega)
    omega
  have em2 : m = (hi + 1) / s := by
    rw [em]
    split
    · omega
    · rfl
  rw [e, em2, ec] <;> rfl
/-- the middles of blocks of size 2 h within lo + 1 .. hi -/
def mid (h lo hi : Int) : Int := hi / h - lo / h - hi / (2 * h) + lo / (2 * h)
def cntM (h lo hi : Int) : Nat → Int
  | 0 => 0
  | i + 1 => cntM h lo hi i + (if (decide (lo < (i : Int) * (2 * h) + h) && decide ((i : Int) * (2 * h) + h ≤ hi)) = true then 1 else 0)
theorem mid_iff {h x i : Int} (hh : 0 < h) : i * (2 * h) + h ≤ x ↔ i < (x / h + 1) / 2 := by
  have a := Int.le_ediv_iff_mul_le (a := 2 * i + 1) (b := x) hh
  have e : (2 * i + 1) * h = i * (2 * h) + h := by rw [Int.add_mul, Int.one_mul, Int.mul_left_comm i 2 h, Int.mul_assoc]
  rw [e] at a
  rw [← a]
  generalize x / h = y
  omega
theorem mid_half {h x : Int} (hh : 0 < h) : x / h - x / (2 * h) = (x / h + 1) / 2 := by
  have e : x / (2 * h) = x / h / 2 := by
    rw [Int.mul_comm 2 h]
    exact (Int.ediv_ediv_of_nonneg (by omega)).symm
  rw [e]
  generalize x / h = y
  omega
theorem mid_eq {h lo hi : Int} (hh : 0 < h) : mid h lo hi = (hi / h + 1) / 2 - (lo / h + 1) / 2 := by
  rw [← mid_half (x := hi) hh, ← mid_half (x := lo) hh]
  unfold mid
  omega
theorem cntM_eq {h lo hi : Int} (hh : 0 < h) (hl : lo ≤ hi) : ∀ i : Nat, cntM h lo hi i = (if (i : Int) ≤ (hi / h + 1) / 2 then (i : Int) else (hi / h + 1) / 2) - (if (i : Int) ≤ (lo / h + 1) / 2 then (i : Int) else (lo / h + 1) / 2) ∨ (lo < 0)
  | 0 => by
    by_cases z : lo < 0
    · exact .inr z
    · left
      have l1 : 0 ≤ lo / h := Int.ediv_nonneg (by omega) (by omega)
      have l2 : 0 ≤ hi / h := Int.ediv_nonneg (by omega) (by omega)
      show (0 : Int) = _
      rw [if_pos (by simp only [Int.natCast_zero]; omega), if_pos (by simp only [Int.natCast_zero]; omega)]
      omega
  | i + 1 => by
    rcases cntM_eq hh hl i with e | z
    · left
      have a1 := mid_iff (x := lo) (i := (i : Int)) hh
      have a2 := mid_iff (x := hi) (i := (i : Int)) hh
      have l3 : lo / h ≤ hi / h := Int.ediv_le_ediv hh hl
      generalize lo / h = p at *
      generalize hi / h = q at *
      show cntM h lo hi i + _ = _
      have e1 : ((i + 1 : Nat) : Int) = (i : Int) + 1 := Int.natCast_succ i
      rw [e, e1]
      generalize (i : Int) * (2 * h) + h = y at *
      by_cases b1 : lo < y
      · by_cases b2 : y ≤ hi
        · rw [if_pos (show (decide (lo < y) && decide (y ≤ hi)) = true by rw [decide_eq_true b1, decide_eq_true b2]; rfl)]
          have c1 : ¬ (i : Int) < (p + 1) / 2 := fun z => by
            have := a1.mpr z
            omega
          have c2 := a2.mp b2
          rw [if_pos (show (i : Int) ≤ (q + 1) / 2 by omega), if_pos (show (i : Int) + 1 ≤ (q + 1) / 2 by omega)]
          rw [if_neg (show ¬ (i : Int) + 1 ≤ (p + 1) / 2 by omega)]
          split <;> omega
        · rw [if_neg (show ¬ (decide (lo < y) && decide (y ≤ hi)) = true by rw [decide_eq_false b2, Bool.and_false]; exact Bool.false_ne_true)]
          have c1 : ¬ (i : Int) < (p + 1) / 2 := fun z => by
            have := a1.mpr z
            omega
          have c2 : ¬ (i : Int) < (q + 1) / 2 := fun z => b2 (a2.mpr z)
          rw [if_neg (show ¬ (i : Int) + 1 ≤ (q + 1) / 2 by omega), if_neg (show ¬ (i : Int) + 1 ≤ (p + 1) / 2 by omega)]
          split <;> split <;> omega
      · rw [if_neg (show ¬ (decide (lo < y) && decide (y ≤ hi)) = true by rw [decide_eq_false b1, Bool.false_and]; exact Bool.false_ne_true)]
        have c1 := a1.mp (by omega)
        have c2 : (i : Int) < (q + 1) / 2 := by omega
        rw [if_pos (show (i : Int) + 1 ≤ (q + 1) / 2 by omega), if_pos (show (i : Int) + 1 ≤ (p + 1) / 2 by omega), if_pos (show (i : Int) ≤ (q + 1) / 2 by omega), if_pos (show (i : Int) ≤ (p + 1) / 2 by omega)]
        omega
    · exact .inr z
theorem cntM_all {h lo hi : Int} {n : Nat} (hh : 0 < h) (h0 : 0 ≤ lo) (hl : lo ≤ hi) (hn : hi < (n : Int) * (2 * h)) : cntM h lo hi n = mid h lo hi := by
  rcases cntM_eq hh hl n with e | z
  · have hd : (hi / h + 1) / 2 ≤ (n : Int) := by
      have a := mid_iff (x := hi) (i := (n : Int)) hh
      have : ¬ (n : Int) * (2 * h) + h ≤ hi := by omega
      have := fun z => this (a.mpr z)
      omega
    have l3 : lo / h ≤ hi / h := Int.ediv_le_ediv hh hl
    rw [e, mid_eq hh]
    have e1 : (if (n : Int) ≤ (hi / h + 1) / 2 then (n : Int) else (hi / h + 1) / 2) = (hi / h + 1) / 2 := by
      split <;> omega
    have e2 : (if (n : Int) ≤ (lo / h + 1) / 2 then (n : Int) else (lo / h + 1) / 2) = (lo / h + 1) / 2 := by
      split <;> omega
    rw [e1, e2]
  · omega
/-- more bits behind change nothing -/
theorem blk_wide {s lo hi m : Int} (hs : 0 < s) (hm : 0 < m) : blk (s * m) (lo * m) ((hi + 1) * m - 1) = blk s lo hi := by
  have e1 : ((hi + 1) * m - 1 + 1) / (s * m) = (hi + 1) / s := by
    rw [Int.sub_add_cancel]
    exact Int.mul_ediv_mul_of_pos_left _ _ hm
  have e2 : (lo * m + s * m - 1) / (s * m) = (lo + s - 1) / s := by
    have hsm : 0 < s * m := Int.mul_pos hs hm
    apply Int.le_antisymm
    · rw [lo_iff hsm]
      have := (lo_iff (lo := lo) (i := (lo + s - 1) / s) hs).mp (Int.le_refl _)
      rw [← Int.mul_assoc]
      exact Int.mul_le_mul_of_nonneg_right this (by omega)
    · rw [lo_iff hs]
      have := (lo_iff (lo := lo * m) (i := (lo * m + s * m - 1) / (s * m)) hsm).mp (Int.le_refl _)
      rw [← Int.mul_assoc] at this
      exact Int.le_of_mul_le_mul_right this hm
  unfold blk
  rw [e1, e2]
theorem mid_wide {h lo hi m : Int} (hh : 0 < h) (hm : 0 < m) : mid (h * m) (lo * m) ((hi + 1) * m - 1) = mid h lo hi := by
  have d : ∀ {t : Int}, 0 < t → ((hi + 1) * m - 1) / (t * m) = hi / t := fun {t} ht => by
    have htm : 0 < t * m := Int.mul_pos ht hm
    apply Int.le_antisymm
    · have a := (Int.le_ediv_iff_mul_le (a := ((hi + 1) * m - 1) / (t * m)) (b := (hi + 1) * m - 1) htm).mp (Int.le_refl _)
      rw [Int.le_ediv_iff_mul_le ht]
      rw [← Int.mul_assoc] at a
      have b : ((hi + 1) * m - 1) / (t * m) * t * m < (hi + 1) * m := by omega
      have := Int.lt_of_mul_lt_mul_right b (by omega)
      omega
    · rw [Int.le_ediv_iff_mul_le htm]
      have a := (Int.le_ediv_iff_mul_le (a := hi / t) (b := hi) ht).mp (Int.le_refl _)
      have b : hi / t * t * m ≤ hi * m := Int.mul_le_mul_of_nonneg_right a (by omega)
      rw [← Int.mul_assoc, Int.add_mul]
      omega
  unfold mid
  rw [d hh, Int.mul_ediv_mul_of_pos_left _ _ hm, ← Int.mul_assoc, d (by omega), Int.mul_ediv_mul_of_pos_left _ _ hm]
theorem step_div {s y : Int} (hs : 0 < s) : y / s - (y - 1) / s = if y % s = 0 then 1 else 0 := by
  have e := Int.mul_ediv_add_emod y s
  have r0 := Int.emod_nonneg y (show s ≠ 0 by omega)
  have r1 := Int.emod_lt_of_pos y hs
  rw [Int.mul_comm] at e
  generalize y / s = q at *
  generalize y % s = r at *
  have a1 : (y - 1) / s ≤ q := by
    have := (Int.ediv_lt_iff_lt_mul (a := y - 1) (b := q + 1) hs).mpr (by rw [Int.add_mul, Int.one_mul]; omega)
    omega
  have a2 : q - 1 ≤ (y - 1) / s := (Int.le_ediv_iff_mul_le hs).mpr (by rw [Int.sub_mul, Int.one_mul]; omega)
  split
  · have := (Int.ediv_lt_iff_lt_mul (a := y - 1) (b := q) hs).mpr (by omega)
    omega
  · have := (Int.le_ediv_iff_mul_le (a := q) (b := y - 1) hs).mpr (by omega)
    omega
theorem mid_f {h x : Int} (hh : 0 < h) : (x / h + 1) / 2 = (x + h) / (2 * h) := by
  rw [Int.mul_comm 2 h, ← Int.ediv_ediv_of_nonneg (by omega)]
  have := Int.add_mul_ediv_right x 1 (show h ≠ 0 by omega)
  rw [Int.one_mul] at this
  rw [this]
theorem mid_mod {h x : Int} (hh : 0 < h) : (x + h) % (2 * h) = 0 ↔ x % (2 * h) = h := by
  have e := Int.mul_ediv_add_emod x (2 * h)
  have r0 := Int.emod_nonneg x (show 2 * h ≠ 0 by omega)
  have r1 := Int.emod_lt_of_pos x (show 0 < 2 * h by omega)
  have e2 : (x + h) % (2 * h) = (x % (2 * h) + h) % (2 * h) := (Int.emod_add_emod x (2 * h) h).symm
  rw [e2]
  generalize x % (2 * h) = r at *
  by_cases z : r < h
  · rw [Int.emod_eq_of_lt (by omega) (by omega)]
    omega
  · have : (r + h) % (2 * h) = r - h := by
      have := Int.add_mul_emod_self_right (r - h) 1 (2 * h)
      rw [Int.one_mul, Int.emod_eq_of_lt (a := r - h) (by omega) (by omega)] at this
      rw [← this]
      congr 1
      omega
    rw [this]
    omega
theorem mid_at {h x : Int} (hh : 0 < h) : (x / h + 1) / 2 - ((x - 1) / h + 1) / 2 = if x % (2 * h) = h then 1 else 0 := by
  rw [mid_f hh, mid_f hh]
  have := step_div (y := x + h) (s := 2 * h) (by omega)
  rw [show x - 1 + h = x + h - 1 by omega, this]
  by_cases z : x % (2 * h) = h
  · rw [if_pos z, if_pos ((mid_mod hh).mpr z)]
  · rw [if_neg z, if_neg fun y => z ((mid_mod hh).mp y)]
theorem mid_left {h lo hi : Int} (hh : 0 < h) : mid h lo hi - mid h (lo + 1) hi = if (lo + 1) % (2 * h) = h then 1 else 0 := by
  rw [mid_eq hh, mid_eq hh, ← mid_at hh, show lo + 1 - 1 = lo by omega]
  omega
theorem mid_right {h lo hi : Int} (hh : 0 < h) : mid h lo (hi + 1) - mid h lo hi = if (hi + 1) % (2 * h) = h then 1 else 0 := by
  rw [mid_eq hh, mid_eq hh, ← mid_at hh, show hi + 1 - 1 = hi by omega]
  omega
theorem mid_cut {h lo sp hi : Int} : mid h lo sp + mid h sp hi = mid h lo hi := by
  unfold mid
  omega
theorem blk_right {s lo hi : Int} (hs : 0 < s) : blk s lo (hi + 1) - blk s lo hi = if (hi + 2) % s = 0 ∧ lo ≤ hi + 2 - s then 1 else 0 := by
  have d := step_div (y := hi + 2) hs
  have e := Int.mul_ediv_add_emod (hi + 2) s
  rw [Int.mul_comm] at e
  have l := lo_iff (lo := lo) (i := (hi + 2) / s - 1) hs
  rw [Int.sub_mul, Int.one_mul] at l
  unfold blk
  rw [show hi + 1 + 1 = hi + 2 by omega]
  rw [show hi + 2 - 1 = hi + 1 by omega] at d
  generalize (hi + 2) / s * s = qs at *
  generalize (hi + 2) / s = q at *
  generalize (hi + 1) / s = q1 at *
  generalize (lo + s - 1) / s = c at *
  by_cases z : (hi + 2) % s = 0
  · rw [if_pos z] at d
    rw [z] at e
    by_cases y : lo ≤ hi + 2 - s
    · have := l.mpr (by omega)
      rw [show (if (hi + 2) % s = 0 ∧ lo ≤ hi + 2 - s then 1 else 0 : Int) = 1 from if_pos ⟨z, y⟩]
      split <;> split <;> omega
    · have := fun w => y (by have := l.mp w; omega)
      rw [show (if (hi + 2) % s = 0 ∧ lo ≤ hi + 2 - s then 1 else 0 : Int) = 0 from if_neg fun w => y w.2]
      split <;> split <;> omega
  · rw [if_neg z] at d
    rw [show (if (hi + 2) % s = 0 ∧ lo ≤ hi + 2 - s then 1 else 0 : Int) = 0 from if_neg fun w => z w.1]
    split <;> split <;> omega
theorem blk_first {s lo hi : Int} (hs : 0 < s) : (if (hi + 1 - (lo + (0 - lo) % s)) / s > 0 then (hi + 1 - (lo + (0 - lo) % s)) / s else 0) = blk s lo hi := by
  have e := Int.mul_ediv_add_emod (0 - lo) s
  have r0 := Int.emod_nonneg (0 - lo) (show s ≠ 0 by omega)
  have r1 := Int.emod_lt_of_pos (0 - lo) hs
  have ec : lo + (0 - lo) % s = (lo + s - 1) / s * s := by
    have a1 := lo_iff (lo := lo) (i := (lo + s - 1) / s) hs
    have a2 := lo_iff (lo := lo) (i := -((0 - lo) / s)) hs
    have a3 := lo_iff (lo := lo) (i := -((0 - lo) / s) - 1) hs
    rw [Int.sub_mul, Int.one_mul] at a3
    rw [Int.neg_mul] at a2 a3
    rw [Int.mul_comm] at e
    have b2 := a2.mpr (by omega)
    have b3 : ¬ (lo + s - 1) / s ≤ -((0 - lo) / s) - 1 := fun z => by
      have := a3.mp z
      omega
    have : (lo + s - 1) / s = -((0 - lo) / s) := by omega
    rw [this, Int.neg_mul]
    omega
  rw [ec]
  have : (hi + 1 - (lo + s - 1) / s * s) / s = (hi + 1) / s - (lo + s - 1) / s := by
    have := Int.add_mul_ediv_right (hi + 1) (-((lo + s - 1) / s)) (show s ≠ 0 by omega)
    rw [Int.neg_mul] at this
    rw [Int.sub_eq_add_neg, this]
    omega
  rw [this]
  rfl
theorem blk_one {lo hi : Int} (h : lo ≤ hi) : blk 1 lo hi = hi - lo + 1 := by
  unfold blk
  rw [Int.ediv_one, Int.ediv_one]
  split <;> omega
end WK
/-! ## the text of data -/
namespace WK
open PySem PySem.Spec PyProof.Rows L2
structure DOk (h n : Nat) (d : PyData) : Prop where
  sh : d.showable = true
  nd : d.hasDict = false
  dp : d.depth ≤ h
  ln : d.shown.length ≤ n
theorem DOk.mono {h n h' n' : Nat} {d : PyData} (x : DOk h n d) (a : h ≤ h') (b : n ≤ n') : DOk h' n' d := ⟨x.sh, x.nd, Nat.le_trans x.dp a, Nat.le_trans x.ln b⟩
theorem DOk.int {i : Int} {k : Nat} (h : i.natAbs < 2 ^ k) (h0 : 0 < k) (hk : k ≤ 1900) : DOk 0 (k + 1) (.int i) := by
  refine ⟨?_, rfl, Nat.le_refl _, ?_⟩
  · show decide (i.natAbs.log2 < 1920) = true
    apply decide_eq_true
    by_cases z : i.natAbs = 0
    · rw [z]
      decide
    · have := (Nat.log2_lt z).mpr h
      omega
  · show (Str.ofString (toString i)).length ≤ _
    rw [PySem.ofString_length]
    exact int_text_length_le10 h0 (Nat.lt_of_lt_of_le h (Nat.pow_le_pow_left (by decide) k))
theorem DOk.bool {b : Bool} : DOk 0 5 (.bool b) := ⟨rfl, rfl, Nat.le_refl _, by cases b <;> decide⟩
theorem DOk.none : DOk 0 5 .none := ⟨rfl, rfl, Nat.le_refl _, by decide⟩
theorem dok_all {h n : Nat} : ∀ {ds : List PyData}, (∀ d ∈ ds, DOk h n d) → PyData.showableAll ds = true ∧ PyData.hasDictAll ds = false ∧ PyData.depthAll ds ≤ h ∧ ((PyData.shownAll ds).map (·.length)).sum ≤ ds.length * n ∧ (PyData.shownAll ds).length = ds.length
  | [], _ => ⟨rfl, rfl, Nat.zero_le _, by simp [PyData.shownAll], rfl⟩
  | d :: ds, H => by
    obtain ⟨a, b, c, e, f⟩ := dok_all (ds := ds) fun x hx => H x (List.mem_cons_of_mem _ hx)
    obtain ⟨a1, b1, c1, e1⟩ := H d List.mem_cons_self
    refine ⟨by rw [PyData.showableAll, a1, a]; rfl, by rw [PyData.hasDictAll, b1, b]; rfl, ?_, ?_, ?_⟩
    · rw [PyData.depthAll]
      exact Nat.max_le.mpr ⟨c1, c⟩
    · simp only [PyData.shownAll, List.map_cons, List.sum_cons, List.length_cons, Nat.succ_mul]
      omega
    · simp only [PyData.shownAll, List.length_cons, f]
theorem DOk.list {h n : Nat} {ds : List PyData} (H : ∀ d ∈ ds, DOk h n d) : DOk (h + 1) (ds.length * (n + 2) + 3) (.list ds) := by
  obtain ⟨a, b, c, e, f⟩ := dok_all H
  refine ⟨by rw [PyData.showable]; exact a, by rw [PyData.hasDict]; exact b, by rw [PyData.depth]; omega, ?_⟩
  rw [PyData.shown]
  have := listText_len_le (PyData.shownAll ds)
  rw [f] at this
  rw [Nat.mul_add]
  omega
theorem DOk.tuple {h n : Nat} {ds : List PyData} (H : ∀ d ∈ ds, DOk h n d) : DOk (h + 1) (ds.length * (n + 2) + 3) (.tuple ds) := by
  obtain ⟨a, b, c, e, f⟩ := dok_all H
  refine ⟨by rw [PyData.showable]; exact a, by rw [PyData.hasDict]; exact b, by rw [PyData.depth]; omega, ?_⟩
  rw [PyData.shown]
  have := tupleText_len_le (PyData.shownAll ds)
  rw [f] at this
  rw [Nat.mul_add]
  omega
theorem DOk.str {x : Str} (hx : ∀ c ∈ x.cps.toList, c < 16 ^ 8) : DOk 0 (x.length * 10 + 2) (.str x) := by
  refine ⟨rfl, rfl, Nat.le_refl _, ?_⟩
  have e := PySem.StrLaws.reprText_len x hx
  rw [PyData.shown]
  have e2 : x.length = x.cps.size := rfl
  omega
theorem DOk.ints {k : Nat} {ns : List Int} (h : ∀ i ∈ ns, i.natAbs < 2 ^ k) (h0 : 0 < k) (hk : k ≤ 1900) : DOk 1 (ns.length * (k + 3) + 3) (.list (ns.map .int)) := by
  have := DOk.list (ds := ns.map .int) (h := 0) (n := k + 1) fun d hd => by
    obtain ⟨i, hi, rfl⟩ := List.mem_map.mp hd
    exact DOk.int (h i hi) h0 hk
  rw [List.length_map] at this
  exact this
theorem repr_do {K : PySem.W.Frag} {x : V} {d : PyData} {H : Hp} {Q : VK} {h n : Nat} (a : Dp K H x d) (b : DOk h n d) (c : h ≤ 60) (e : n ≤ 100000) (q : Q (.str d.shown) H) : rRepr K [x] H Q :=
  ⟨x, d, rfl, a, b.sh, b.nd, Nat.le_trans b.dp c, Nat.le_trans b.ln (le_size e), q⟩
theorem dp_ints {K : PySem.W.Frag} {H : Hp} : ∀ ns : List Int, DpAll K H (ns.map V.int) (ns.map .int)
  | [] => .nil
  | n :: ns => .cons (.int n) (dp_ints ns)
end WK
namespace K09
open PySem PySem.Spec PyProof.Rows L2 WK
local macro_rules | `(tactic| walk_at "vc") => `(tactic| simp only [tSeq, tAsg, tPar, tPar3, tIfS, tIf, tTest, tB, tOp, tUn, rU, rI0, rI, rEq, rNe, tVar, tC, tCB, tCons, tNil, tCal, gName, gSub, gTup, gCons, gNil, tRet, tRetN, tDrop, tLst, tTup, tNext, tBits, tChain, tAnd, tOr, tNot, tAndV, tOrV, tNotV, tSl, tPart, tNoPart, tBM, tBM0, tAug, tEx, tNever, rSetL, for_eq, lc_eq, yes_eq, scal_ii, scal_bb, scal_ss, scal_nn, scal_in, scal_ni, scal_sn, scal_ns, scal_bn, scal_nb, scal_is, scal_si, iRng1, iRng2, iList, iTup, wipe,
  L2.start, isi_int, isi_str, isi_bl, isi_non, kit_ii, kit_ss, kit_bb, kit_ib, kit_is, kit_it, kit_il, kit_si, kit_sb, kit_st, kit_sl, kit_bi, kit_bs, kit_bt, kit_ni, kit_ns, kit_nt, kit_tt, kit_tl, kit_ti, kit_ts, kit_ll, kit_lt, kit_li, kit_ls, rLenU, rRep, rCat, rIxL, rIxT, rIntI, rIntB, rIsi, LenV, List.map_cons, List.map_nil, List.cons_append, List.nil_append, List.length_cons, List.length_nil, List.replicate, List.getElem?_cons_zero, List.getElem?_cons_succ, Option.some.injEq, exists_eq_left', V.int.injEq, V.str.injEq, List.cons.injEq, V.ref.injEq, V.bl.injEq,
  exists_and_left, exists_eq_left, exists_eq, and_true, true_and, and_assoc, List.set_cons_zero, List.set_cons_succ, Nat.reduceAdd, Nat.reduceSub, if_true, if_false, Bool.false_eq_true, reduceIte, Bool.not_true, Bool.not_false, decide_true, decide_false, reduceCtorEq, false_and, and_false, or_false, false_or, exists_false])
/-! ## the text, by places -/
def top (i : Nat) : Stmt := PySem.Challenge.pw_wovenkeys_k09_blocks_and_middles.main.body.getD i (.Pass ⟨0, 0, 0, 0⟩)
abbrev s_blocks_in : Stmt := top 1
abbrev N_blocks_in : List Str := ["bits", "low", "high", "told", "size"]
theorem sc_blocks_in : FnScope N_blocks_in ["bits", "low", "high", "told"] (defScope s_blocks_in) := ⟨rfl, rfl, rfl, by decide +kernel, rfl, by decide +kernel, by decide +kernel⟩
abbrev s_middles_in : Stmt := top 2
abbrev N_middles_in : List Str := ["bits", "low", "high", "told", "half"]
theorem sc_middles_in : FnScope N_middles_in ["bits", "low", "high", "told"] (defScope s_middles_in) := ⟨rfl, rfl, rfl, by decide +kernel, rfl, by decide +kernel, by decide +kernel⟩
abbrev s_is_int : Stmt := top 9
abbrev N_is_int : List Str := ["value"]
theorem sc_is_int : FnScope N_is_int ["value"] (defScope s_is_int) := ⟨rfl, rfl, rfl, by decide +kernel, rfl, by decide +kernel, by decide +kernel⟩
abbrev s_require_number : Stmt := top 10
abbrev N_require_number : List Str := ["value", "low", "high"]
theorem sc_require_number : FnScope N_require_number ["value", "low", "high"] (defScope s_require_number) := ⟨rfl, rfl, rfl, by decide +kernel, rfl, by decide +kernel, by decide +kernel⟩
abbrev s_is_stretch : Stmt := top 11
abbrev N_is_stretch : List Str := ["bits", "value"]
theorem sc_is_stretch : FnScope N_is_stretch ["bits", "value"] (defScope s_is_stretch) := ⟨rfl, rfl, rfl, by decide +kernel, rfl, by decide +kernel, by decide +kernel⟩
abbrev s_require_stretch : Stmt := top 13
abbrev N_require_stretch : List Str := ["bits", "value"]
theorem sc_require_stretch : FnScope N_require_stretch ["bits", "value"] (defScope s_require_stretch) := ⟨rfl, rfl, rfl, by decide +kernel, rfl, by decide +kernel, by decide +kernel⟩
abbrev s_count_blocks : Stmt := top 14
abbrev N_count_blocks : List Str := ["bits", "stretch", "told"]
theorem sc_count_blocks : FnScope N_count_blocks ["bits", "stretch", "told"] (defScope s_count_blocks) := ⟨rfl, rfl, rfl, by decide +kernel, rfl, by decide +kernel, by decide +kernel⟩
abbrev s_count_middles : Stmt := top 15
abbrev N_count_middles : List Str := ["bits", "stretch", "told"]
theorem sc_count_middles : FnScope N_count_middles ["bits", "stretch", "told"] (defScope s_count_middles) := ⟨rfl, rfl, rfl, by decide +kernel, rfl, by decide +kernel, by decide +kernel⟩
abbrev s__law_brook : Stmt := top 17
abbrev N__law_brook : List Str := ["_law_script", "_law_k", "_law_cell"]
theorem sc__law_brook : FnScope N__law_brook ["_law_script", "_law_k"] (defScope s__law_brook) := ⟨rfl, rfl, rfl, by decide +kernel, rfl, by decide +kernel, by decide +kernel⟩
abbrev s__law_dip : Stmt := top 18
abbrev N__law_dip : List Str := ["_law_brook_here", "_law_many", "_law_found", "_law_turn", "_law_mixed"]
theorem sc__law_dip : FnScope N__law_dip ["_law_brook_here", "_law_many"] (defScope s__law_dip) := ⟨rfl, rfl, rfl, by decide +kernel, rfl, by decide +kernel, by decide +kernel⟩
abbrev s__law_stretch : Stmt := top 19
abbrev N__law_stretch : List Str := ["_law_brook_here", "_law_bits", "_law_top", "_law_way", "_law_one", "_law_block", "_law_low", "_law_other"]
theorem sc__law_stretch : FnScope N__law_stretch ["_law_brook_here", "_law_bits"] (defScope s__law_stretch) := ⟨rfl, rfl, rfl, by decide +kernel, rfl, by decide +kernel, by decide +kernel⟩
abbrev s__law_same : Stmt := top 20
abbrev N__law_same : List Str := ["_law_actual", "_law_expected"]
theorem sc__law_same : FnScope N__law_same ["_law_actual", "_law_expected"] (defScope s__law_same) := ⟨rfl, rfl, rfl, by decide +kernel, rfl, by decide +kernel, by decide +kernel⟩
abbrev s__law_due : Stmt := top 21
abbrev N__law_due : List Str := ["_law_bits", "_law_stretch_here", "_law_told", "_law_size_here", "_law_found", "_law_block", "_law_middle"]
theorem sc__law_due : FnScope N__law_due ["_law_bits", "_law_stretch_here", "_law_told"] (defScope s__law_due) := ⟨rfl, rfl, rfl, by decide +kernel, rfl, by decide +kernel, by decide +kernel⟩
abbrev s__law_small_right : Stmt := top 22
abbrev N__law_small_right : List Str := ["_law_brook_here", "_law_bits", "_law_stretch_here", "_law_more", "_law_wide", "_law_told", "_law_due_here", "_law_some"]
theorem sc__law_small_right : FnScope N__law_small_right ["_law_brook_here", "_law_bits"] (defScope s__law_small_right) := ⟨rfl, rfl, rfl, by decide +kernel, rfl, by decide +kernel, by decide +kernel⟩
abbrev s__law_great_right : Stmt := top 23
abbrev N__law_great_right : List Str := ["_law_brook_here", "_law_bits", "_law_low", "_law_high", "_law_told", "_law_size_here", "_law_more", "_law_middles", "_law_blocks", "_law_ends", "_law_first", "_law_spot", "_law_parts"]
theorem sc__law_great_right : FnScope N__law_great_right ["_law_brook_here", "_law_bits"] (defScope s__law_great_right) := ⟨rfl, rfl, rfl, by decide +kernel, rfl, by decide +kernel, by decide +kernel⟩
abbrev s_law : Stmt := top 24
abbrev N_law : List Str := ["_law_script", "_law_k", "_law_brook_here", "_law_turn"]
theorem sc_law : FnScope N_law ["_law_script"] (defScope s_law) := ⟨rfl, rfl, rfl, by decide +kernel, rfl, by decide +kernel, by decide +kernel⟩
/-- what the top has written -/
structure Txt (K : PySem.W.Frag) (mg : Str → Option Value) : Prop where
  n_bool : mg "bool" = none
  n_int : mg "int" = none
  n_isinstance : mg "isinstance" = none
  n_len : mg "len" = none
  n_max : mg "max" = none
  n_min : mg "min" = none
  n_range : mg "range" = none
  n_repr : mg "repr" = none
  n_sum : mg "sum" = none
  n_tuple : mg "tuple" = none
  c_MOST_BITS : ∃ t, mg "MOST_BITS" = some (.int 120 t)
  f_blocks_in : ∃ fd, FunD K "blocks_in" "blocks_in" (defArgs s_blocks_in) (defBody s_blocks_in) (defScope s_blocks_in) [] [] (He.ga K "blocks_in") fd
  g_blocks_in : mg "blocks_in" = some (.ref (He.ga K "blocks_in"))
  f_middles_in : ∃ fd, FunD K "middles_in" "middles_in" (defArgs s_middles_in) (defBody s_middles_in) (defScope s_middles_in) [] [] (He.ga K "middles_in") fd
  g_middles_in : mg "middles_in" = some (.ref (He.ga K "middles_in"))
  f_is_int : ∃ fd, FunD K "is_int" "is_int" (defArgs s_is_int) (defBody s_is_int) (defScope s_is_int) [] [] (He.ga K "is_int") fd
  g_is_int : mg "is_int" = some (.ref (He.ga K "is_int"))
  f_require_number : ∃ fd, FunD K "require_number" "require_number" (defArgs s_require_number) (defBody s_require_number) (defScope s_require_number) [] [] (He.ga K "require_number") fd
  g_require_number : mg "require_number" = some (.ref (He.ga K "require_number"))
  f_is_stretch : ∃ fd, FunD K "is_stretch" "is_stretch" (defArgs s_is_stretch) (defBody s_is_stretch) (defScope s_is_stretch) [] [] (He.ga K "is_stretch") fd
  g_is_stretch : mg "is_stretch" = some (.ref (He.ga K "is_stretch"))
  f_require_stretch : ∃ fd, FunD K "require_stretch" "require_stretch" (defArgs s_require_stretch) (defBody s_require_stretch) (defScope s_require_stretch) [] [] (He.ga K "require_stretch") fd
  g_require_stretch : mg "require_stretch" = some (.ref (He.ga K "require_stretch"))
  f_count_blocks : ∃ fd, FunD K "count_blocks" "count_blocks" (defArgs s_count_blocks) (defBody s_count_blocks) (defScope s_count_blocks) [] [] (He.ga K "count_blocks") fd
  g_count_blocks : mg "count_blocks" = some (.ref (He.ga K "count_blocks"))
  f_count_middles : ∃ fd, FunD K "count_middles" "count_middles" (defArgs s_count_middles) (defBody s_count_middles) (defScope s_count_middles) [] [] (He.ga K "count_middles") fd
  g_count_middles : mg "count_middles" = some (.ref (He.ga K "count_middles"))
  f__law_brook : ∃ fd, FunD K "_law_brook" "_law_brook" (defArgs s__law_brook) (defBody s__law_brook) (defScope s__law_brook) [] [] (He.ga K "_law_brook") fd
  g__law_brook : mg "_law_brook" = some (.ref (He.ga K "_law_brook"))
  f__law_dip : ∃ fd, FunD K "_law_dip" "_law_dip" (defArgs s__law_dip) (defBody s__law_dip) (defScope s__law_dip) [] [] (He.ga K "_law_dip") fd
  g__law_dip : mg "_law_dip" = some (.ref (He.ga K "_law_dip"))
  f__law_stretch : ∃ fd, FunD K "_law_stretch" "_law_stretch" (defArgs s__law_stretch) (defBody s__law_stretch) (defScope s__law_stretch) [] [] (He.ga K "_law_stretch") fd
  g__law_stretch : mg "_law_stretch" = some (.ref (He.ga K "_law_stretch"))
  f__law_same : ∃ fd, FunD K "_law_same" "_law_same" (defArgs s__law_same) (defBody s__law_same) (defScope s__law_same) [] [] (He.ga K "_law_same") fd
  g__law_same : mg "_law_same" = some (.ref (He.ga K "_law_same"))
  f__law_due : ∃ fd, FunD K "_law_due" "_law_due" (defArgs s__law_due) (defBody s__law_due) (defScope s__law_due) [] [] (He.ga K "_law_due") fd
  g__law_due : mg "_law_due" = some (.ref (He.ga K "_law_due"))
  f__law_small_right : ∃ fd, FunD K "_law_small_right" "_law_small_right" (defArgs s__law_small_right) (defBody s__law_small_right) (defScope s__law_small_right) [] [] (He.ga K "_law_small_right") fd
  g__law_small_right : mg "_law_small_right" = some (.ref (He.ga K "_law_small_right"))
  f__law_great_right : ∃ fd, FunD K "_law_great_right" "_law_great_right" (defArgs s__law_great_right) (defBody s__law_great_right) (defScope s__law_great_right) [] [] (He.ga K "_law_great_right") fd
  g__law_great_right : mg "_law_great_right" = some (.ref (He.ga K "_law_great_right"))
  f_law : ∃ fd, FunD K "law" "law" (defArgs s_law) (defBody s_law) (defScope s_law) [] [] (He.ga K "law") fd
  g_law : mg "law" = some (.ref (He.ga K "law"))
section
variable {P : Program} {w : World} {K : PySem.W.Frag} {mg : Str → Option Value} {base : Heap}
/-! ### the brook: a list of three ints, drawn from -/
abbrev Br3 (o : HO) (n : Nat) : Prop := ∃ x y z : Int, o = .lst [.int x, .int y, .int z] ∧ 0 ≤ x ∧ 0 ≤ y ∧ y < 2 ^ 160 ∧ 0 ≤ z ∧ z ≤ (n : Int)
def Br (a : Addr) (n : Nat) (H : Hp) : Prop := ∃ o, H a = some o ∧ Br3 o n
theorem Br.mono {a : Addr} {n m : Nat} {H : Hp} (h : Br a n H) (l : n ≤ m) : Br a m H := by
  obtain ⟨o, h1, x, y, z, e, h2, h3, h4, h5, h6⟩ := h
  exact ⟨o, h1, x, y, z, e, h2, h3, h4, h5, by omega⟩
theorem Br3.mono {o : HO} {n m : Nat} (h : Br3 o n) (l : n ≤ m) : Br3 o m := by
  obtain ⟨x, y, z, e, h2, h3, h4, h5, h6⟩ := h
  exact ⟨x, y, z, e, h2, h3, h4, h5, by omega⟩
theorem Br.ne {K : PySem.W.Frag} {a : Addr} {n : Nat} {H : Hp} (h : Br a n H) : ∃ zs, H a = some (.lst zs) := by
  obtain ⟨o, h1, x, y, z, e, _⟩ := h
  exact ⟨_, by rw [h1, e]⟩
theorem Br.put {a : Addr} {n : Nat} {H : Hp} {o : HO} (h : Br3 o n) : Br a n (upd H a o) := ⟨o, upd_same, h⟩
theorem Br.new {a p : Addr} {n : Nat} {H : Hp} {o : HO} (h : Br a n H) (np : H p = none) : Br a n (upd H p o) := by
  obtain ⟨u, h1, h2⟩ := h
  exact ⟨u, upd_new np h1, h2⟩
theorem Br.same {a : Addr} {n : Nat} {H H' : Hp} (h : Br a n H) (s : Same H H') : Br a n H' := by
  obtain ⟨o, h1, h2⟩ := h
  exact ⟨o, s _ _ h1, h2⟩
theorem Br.apart {a p : Addr} {n : Nat} {H : Hp} (h : Br a n H) (np : H p = none) : p ≠ a := fun e => by
  obtain ⟨o, h, _⟩ := h
  rw [← e, np] at h
  cases h
theorem none_of {H : Hp} {p q : Addr} {o : HO} (h : upd H p o q = none) : H q = none := by
  rw [← h, upd_ne]
  intro z
  rw [z, upd_same] at h
  cases h
def sp__law_brook (K : PySem.W.Frag) : Sp := fun vs H Q _ => ∃ (s : Addr) (ns : List Int) (k : Int), vs = [.ref s, .int k] ∧ SqL K H s (ns.map V.int) ∧ ns.length ≤ 63 ∧ 0 ≤ k ∧ k ≤ 100 ∧ ∀ p o, H p = none → Br3 o 0 → Q (.ref p) (upd H p o)
theorem O__law_brook (T : Txt K mg) : Ok P w K mg base CX0 1 "_law_brook" ["_law_script", "_law_k"] (sp__law_brook K) :=
  Ok.mk0 T.f__law_brook T.g__law_brook sc__law_brook (by rintro vs H Q E ⟨s, ns, k, rfl, _⟩; rfl) (fun _ _ _ _ _ _ us hl => match us, hl with | [_, _], _ => rfl) (fun f cdv A outer s H vs Q E hr h => by
    obtain ⟨a, ns, k, rfl, hS, hl, k0, k1, q⟩ := h
    refine ⟨_, (pss_cons (ps_set (i := 2) sc__law_brook.nd rfl (.inl rfl) pe_int)
    (pss_cons (ps_if (pt_cmpR op_lt (pv 1) (pe_callB (lenU K) (by rfl) T.n_len (by decide +kernel) (pa_cons (pv 0) pa_nil)) (nomark _)) (pss_one (ps_set (i := 2) sc__law_brook.nd rfl (.inl rfl) (pe_ix (ixL K) (pv 0) (pv 1) (fun _ _ => rfl)))) pss_nil)
    (pss_one (ps_ret (pe_lst (pa_cons (pe_callB max2 (by rfl) T.n_max (by decide +kernel) (pa_cons pe_int (pa_cons (pe_op op_sub (pv 2) (pe_cpow (v := 1000000000000000000) (by decide +kernel))) pa_nil))) (pa_cons (pe_op op_add (pe_op op_add (pe_op op_mulX (pe_op op_mod (pe_callTy intI (by rfl) T.n_int (by decide +kernel) (pa_cons (pv 2) pa_nil)) (pe_op op_add (pe_cpow (v := 1000000000000000000000000000000000000000) (by decide +kernel)) pe_int)) pe_int) (pe_op op_mulX pe_int (pv 1))) pe_int) (pa_cons pe_int pa_nil)))))))), ?_⟩
    have key : ∀ c : Int, ∀ p, H p = none → Q (.ref p) (upd H p (.lst [.int (if c - 1000000000000000000 > 0 then c - 1000000000000000000 else 0), .int (c % (1000000000000000000000000000000000000000 + 37) * 149 + 70207 * k + 37), .int 0])) := fun c p np => by
      refine q p _ np ⟨_, _, _, rfl, by split <;> omega, ?_, ?_, by omega, by omega⟩
      · have := Int.emod_nonneg c (show (1000000000000000000000000000000000000000 + 37 : Int) ≠ 0 by decide)
        omega
      · have h1 := Int.emod_lt_of_pos c (show (0 : Int) < 1000000000000000000000000000000000000000 + 37 by decide)
        have h2 : (2 : Int) ^ 160 = 1461501637330902918203684832716283019655932542976 := by decide +kernel
        rw [h2]
        omega
    walk_at "vc"
    have c1 : ∀ c : Int, CMulX (c % (1000000000000000000000000000000000000000 + 37)) 149 := fun c =>
      mulx_of (a := 130) (b := 8) (Int.emod_nonneg c (by decide)) (Int.lt_trans (Int.emod_lt_of_pos c (by decide)) (by decide +kernel)) (by decide) (by decide) (by decide)
    have c2 : CMulX 70207 k := mulx_of (a := 20) (b := 8) (by decide) (by decide) k0 (by have : (2 : Int) ^ 8 = 256 := by decide
                                                                                         omega) (by decide)
    refine ⟨_, .inl ⟨_, hS, rfl⟩, if_d (fun e => ?_) (fun e => ?_)⟩
    · rw [List.length_map] at e
      have hk : k.toNat < ns.length := by omega
      have g : (ns.map V.int)[k.toNat]? = some (.int ns[k.toNat]) := by
        rw [List.getElem?_map, List.getElem?_eq_getElem hk]
        rfl
      exact ⟨_, hS, _, at_of (by omega) g, _, rfl, _, rfl, by decide, c1 _, c2, le_size (by decide), fun p np => key _ p np⟩
    · exact ⟨by decide, c1 _, c2, le_size (by decide), fun p np => key _ p np⟩)
/-- a draw: below m, from a brook that goes on -/
def sp1__law_dip : Sp := fun vs H Q _ => ∃ (a : Addr) (m : Int) (n : Nat), vs = [.ref a, .int m] ∧ Br a n H ∧ n ≤ 2 ^ 60 ∧ 1 ≤ m ∧ m ≤ 1000000000000000000000000000000 ∧ ∀ r o, 0 ≤ r → r < m → Br3 o (n + 1) → Q (.int r) (upd H a o)
theorem O1__law_dip (T : Txt K mg) : Ok P w K mg base CX0 1 "_law_dip" ["_law_brook_here", "_law_many"] sp1__law_dip :=
  Ok.mk0 T.f__law_dip T.g__law_dip sc__law_dip (by rintro vs H Q E ⟨s, ns, k, rfl, _⟩; rfl) (fun _ _ _ _ _ _ us hl => match us, hl with | [_, _], _ => rfl) (fun f cdv A outer s H vs Q E hr h => by
    obtain ⟨a, m, n, rfl, ⟨o, ha, x, y, z, rfl, x0, y0, y1, z0, z1⟩, hn, m0, m1, q⟩ := h
    refine ⟨_, (pss_cons (ps_if (pt_cmpR op_gt (pv 1) (pe_cpow (v := 1000000000000000000000000000000) (by decide +kernel)) (nomark _)) pss_never pss_nil)
    (pss_cons (ps_if (pt_cmpR op_gt (pe_ix (ixL K) (pv 0) pe_int (fun _ _ => rfl)) pe_int (nomark _)) (pss_cons (ps_set (i := 2) sc__law_dip.nd rfl (.inl rfl) (pe_op op_mod (pe_callTy intI (by rfl) T.n_int (by decide +kernel) (pa_cons (pe_ix (ixL K) (pv 0) pe_int (fun _ _ => rfl)) pa_nil)) (pv 1)))
    (pss_cons (ps_asg (pe_op op_fdivW (pe_ix (ixL K) (pv 0) pe_int (fun _ _ => rfl)) (pv 1)) (pg_sub (pv 0) pe_int set_list))
    (pss_one (ps_ret (pv 2))))) pss_nil)
    (pss_cons (ps_asg (pe_op op_add (pe_ix (ixL K) (pv 0) pe_int (fun _ _ => rfl)) pe_int) (pg_sub (pv 0) pe_int set_list))
    (pss_cons (ps_set (i := 4) sc__law_dip.nd rfl (.inl rfl) (pe_op op_mod (pe_callTy intI (by rfl) T.n_int (by decide +kernel) (pa_cons (pe_op op_powW (pe_op op_add (pe_ix (ixL K) (pv 0) pe_int (fun _ _ => rfl)) (pe_op op_mulX pe_int (pe_ix (ixL K) (pv 0) pe_int (fun _ _ => rfl)))) pe_int) pa_nil)) (pe_op op_add (pe_cpow (v := 100000000000000000000000000000000000000000000) (by decide +kernel)) pe_int)))
    (pss_cons (ps_set (i := 4) sc__law_dip.nd rfl (.inl rfl) (pe_op op_mod (pe_callTy intI (by rfl) T.n_int (by decide +kernel) (pa_cons (pe_op op_powW (pe_op op_add (pv 4) (pe_op op_mulX pe_int (pe_ix (ixL K) (pv 0) pe_int (fun _ _ => rfl)))) pe_int) pa_nil)) (pe_op op_add (pe_cpow (v := 1000000000000000000000000000000000000000000) (by decide +kernel)) pe_int)))
    (pss_one (ps_ret (pe_op op_mod (pe_callTy intI (by rfl) T.n_int (by decide +kernel) (pa_cons (pe_op op_fdivW (pv 4) pe_int) pa_nil)) (pv 1))))))))), ?_⟩
    walk_at "vc"
    refine if_d (fun e => absurd e (by omega)) (fun _ => ?_)
    refine ⟨_, sqL_of ha, _, rfl, _, rfl, if_d (fun e => ?_) (fun e => ?_)⟩
    · refine ⟨_, sqL_of ha, _, rfl, _, rfl, by omega, _, sqL_of ha, _, rfl, _, rfl, cdiv_of (k := 100) (by omega) (Int.lt_of_le_of_lt m1 (by decide +kernel)) (by decide), _, ha, _, rfl, ?_⟩
      exact q _ _ (Int.emod_nonneg _ (by omega)) (Int.emod_lt_of_pos _ (by omega)) ⟨_, _, _, rfl, Int.ediv_nonneg x0 (by omega), y0, y1, z0, by omega⟩
    · have zb : z + 1 < 2 ^ 61 := by
        have : (2 : Int) ^ 61 = 2305843009213693952 := by decide
        have : (2 : Nat) ^ 60 = 1152921504606846976 := by decide
        omega
      have p1 : 179424691 * (z + 1) < 2 ^ (28 + 61) := mul_lt_pow (by decide) (by decide) (by omega) zb
      have p2 : y + 179424691 * (z + 1) < 2 ^ 161 := by
        have : (2 : Int) ^ 161 = 2 * 2 ^ 160 := by decide
        have : (2 : Int) ^ (28 + 61) ≤ 2 ^ 160 := pow_le (by decide)
        omega
      have p3 : ∀ c : Int, 0 ≤ c % (100000000000000000000000000000000000000000000 + 97) ∧ c % (100000000000000000000000000000000000000000000 + 97) < 2 ^ 147 := fun c =>
        ⟨Int.emod_nonneg c (by decide), Int.lt_trans (Int.emod_lt_of_pos c (by decide)) (by decide +kernel)⟩
      have p4 : 122949829 * (z + 1) < 2 ^ (28 + 61) := mul_lt_pow (by decide) (by decide) (by omega) zb
      have p5 : ∀ c : Int, c % (100000000000000000000000000000000000000000000 + 97) + 122949829 * (z + 1) < 2 ^ 148 := fun c => by
        have h := (p3 c).2
        have : (2 : Int) ^ 148 = 2 * 2 ^ 147 := by decide
        have : (2 : Int) ^ (28 + 61) ≤ 2 ^ 147 := pow_le (by decide)
        omega
      refine ⟨_, sqL_of ha, _, rfl, _, rfl, _, ha, _, rfl, _, sqL_of upd_same, _, rfl, _, sqL_of upd_same, _, rfl, _, rfl, mulx_of (a := 28) (b := 61) (by decide) (by decide) (by omega) zb (by decide), _, rfl, powW_ok (n := 161) (k := 3) (nn_lt (by omega) p2) (by decide), by decide, ?_⟩
      refine ⟨_, sqL_of upd_same, _, rfl, _, rfl, mulx_of (a := 28) (b := 61) (by decide) (by decide) (by omega) zb (by decide), powW_ok (n := 148) (k := 3) (nn_lt (by have := (p3 ((y + 179424691 * (z + 1)) ^ (3 : Int).toNat)).1; omega) (p5 _)) (by decide), by decide, cdiv_of (k := 20) (by decide) (by decide) (by decide), by omega, ?_⟩
      exact q _ _ (Int.emod_nonneg _ (by omega)) (Int.emod_lt_of_pos _ (by omega)) ⟨_, _, _, rfl, x0, y0, y1, by omega, by omega⟩)
/-- a draw below any bound -/

def sp__law_dip : Sp := fun vs H Q _ => ∃ (a : Addr) (m : Int) (n : Nat), vs = [.ref a, .int m] ∧ Br a n H ∧ n ≤ 2 ^ 59 ∧ 1 ≤ m ∧ m < 2 ^ (1000 : Nat) ∧ ∀ r o, 0 ≤ r → r < m → Br3 o (n + 20) → Q (.int r) (upd H a o)
theorem O__law_dip (T : Txt K mg) : Ok P w K mg base CX0 2 "_law_dip" ["_law_brook_here", "_law_many"] sp__law_dip :=
  Ok.mk0 T.f__law_dip T.g__law_dip sc__law_dip (by rintro vs H Q E ⟨s, ns, k, rfl, _⟩; rfl) (fun _ _ _ _ _ _ us hl => match us, hl with | [_, _], _ => rfl) (fun f cdv A outer s H vs Q E hr h => by
    obtain ⟨a, m, n, rfl, ⟨o, ha, x, y, z, rfl, x0, y0, y1, z0, z1⟩, hn, m0, m1, q⟩ := h
    refine ⟨_, (pss_cons (ps_if (pt_cmpR op_gt (pv 1) (pe_cpow (v := 1000000000000000000000000000000) (by decide +kernel)) (nomark _)) (pss_cons (ps_set (i := 2) sc__law_dip.nd rfl (.inl rfl) pe_int)
    (pss_cons (ps_for PassesOwn.never rfl (pi_range1 (by rfl) T.n_range (pa_cons (pe_op op_add pe_int (pe_op op_fdivW (pe_bits (pv 1)) pe_int)) pa_nil)) (pg_name (i := 3) sc__law_dip.nd rfl (.inl rfl)) (pss_one (ps_set (i := 2) sc__law_dip.nd rfl (.inl rfl) (pe_op op_add (pe_op op_mulX (pv 2) (pe_cpow (v := 1000000000000000000000000000000) (by decide +kernel))) (cal (O1__law_dip T) hr (pa_cons (pv 0) (pa_cons (pe_cpow (v := 1000000000000000000000000000000) (by decide +kernel)) pa_nil)))))))
    (pss_one (ps_ret (pe_op op_mod (pe_callTy intI (by rfl) T.n_int (by decide +kernel) (pa_cons (pv 2) pa_nil)) (pv 1)))))) pss_nil)
    (pss_cons (ps_if (pt_cmpR op_gt (pe_ix (ixL K) (pv 0) pe_int (fun _ _ => rfl)) pe_int (nomark _)) (pss_cons (ps_set (i := 2) sc__law_dip.nd rfl (.inl rfl) (pe_op op_mod (pe_callTy intI (by rfl) T.n_int (by decide +kernel) (pa_cons (pe_ix (ixL K) (pv 0) pe_int (fun _ _ => rfl)) pa_nil)) (pv 1)))
    (pss_cons (ps_asg (pe_op op_fdivW (pe_ix (ixL K) (pv 0) pe_int (fun _ _ => rfl)) (pv 1)) (pg_sub (pv 0) pe_int set_list))
    (pss_one (ps_ret (pv 2))))) pss_nil)
    (pss_cons (ps_asg (pe_op op_add (pe_ix (ixL K) (pv 0) pe_int (fun _ _ => rfl)) pe_int) (pg_sub (pv 0) pe_int set_list))
    (pss_cons (ps_set (i := 4) sc__law_dip.nd rfl (.inl rfl) (pe_op op_mod (pe_callTy intI (by rfl) T.n_int (by decide +kernel) (pa_cons (pe_op op_powW (pe_op op_add (pe_ix (ixL K) (pv 0) pe_int (fun _ _ => rfl)) (pe_op op_mulX pe_int (pe_ix (ixL K) (pv 0) pe_int (fun _ _ => rfl)))) pe_int) pa_nil)) (pe_op op_add (pe_cpow (v := 100000000000000000000000000000000000000000000) (by decide +kernel)) pe_int)))
    (pss_cons (ps_set (i := 4) sc__law_dip.nd rfl (.inl rfl) (pe_op op_mod (pe_callTy intI (by rfl) T.n_int (by decide +kernel) (pa_cons (pe_op op_powW (pe_op op_add (pv 4) (pe_op op_mulX pe_int (pe_ix (ixL K) (pv 0) pe_int (fun _ _ => rfl)))) pe_int) pa_nil)) (pe_op op_add (pe_cpow (v := 1000000000000000000000000000000000000000000) (by decide +kernel)) pe_int)))
    (pss_one (ps_ret (pe_op op_mod (pe_callTy intI (by rfl) T.n_int (by decide +kernel) (pa_cons (pe_op op_fdivW (pv 4) pe_int) pa_nil)) (pv 1))))))))), ?_⟩
    walk_at "vc"
    have p60 : (2 : Nat) ^ 60 = 1152921504606846976 := by decide
    have p59 : (2 : Nat) ^ 59 = 576460752303423488 := by decide
    refine if_d (fun e => ?_) (fun e => ?_)
    · have hb : Builtin.Int.intBits m ≤ 1000 := PyProof.Rows.intBits_le (k := 1000) (nn_lt (by omega) m1)
      generalize Builtin.Int.intBits m = B at hb
      have eT : (1 + (B : Int) / 90).toNat = 1 + B / 90 := by omega
      refine ⟨cdiv_of (k := 10) (by decide) (by decide) (by decide), by omega, by omega, ?_⟩
      rw [eT]
      have hT : 1 + B / 90 ≤ 12 := by omega
      generalize 1 + B / 90 = T at hT
      refine loop_r0 (fun i σ' H' => ∃ (f : Int) (y3 : Option V) (o : HO), σ' = [some (.ref a), some (.int m), some (.int f), y3, none] ∧ 0 ≤ f ∧ f < 2 ^ (100 * i) ∧ H' = upd H a o ∧ Br3 o (n + i))
        ⟨0, none, .lst [.int x, .int y, .int z], rfl, by decide, by decide, ?_, x, y, z, rfl, x0, y0, y1, z0, by omega⟩ ?_ ?_
      · funext b
        by_cases hb2 : b = a
        · rw [hb2, upd_same, ha]
        · rw [upd_ne hb2]
      · rintro i σ' H' hi ⟨f, y3, o, rfl, f0, f1, rfl, hB⟩
        walk_at "vc"
        have f2 : f < 2 ^ 1200 := lt_pow f1 (by omega)
        refine ⟨mulx_of (a := 1200) (b := 100) f0 f2 (by decide) (by decide +kernel) (by decide), a, 1000000000000000000000000000000, n + i, rfl, ⟨o, upd_same, hB⟩, by omega, by decide, by decide, fun r o2 r0 r1 hB2 => ?_⟩
        refine ⟨_, rfl, by omega, ?_, o2, upd_upd, hB2⟩
        have e1 : (2 : Int) ^ (100 * (i + 1)) = 2 ^ (100 * i) * 2 ^ 100 := by rw [Nat.mul_add, Int.pow_add]
        have e2 : (2 : Int) ^ 100 = 1267650600228229401496703205376 := by decide +kernel
        rw [e1, e2]
        omega
      · rintro σ' H' ⟨f, y3, o, rfl, f0, f1, rfl, hB⟩
        walk_at "vc"
        exact ⟨by omega, q _ _ (Int.emod_nonneg _ (by omega)) (Int.emod_lt_of_pos _ (by omega)) (hB.mono (by omega))⟩
    · have m1 : m ≤ 1000000000000000000000000000000 := by omega
      have hn : n ≤ 2 ^ 60 := by omega
      have q1 : ∀ r o, 0 ≤ r → r < m → Br3 o (n + 1) → Q (.int r) (upd H a o) := fun r o r0 r1 hB => q r o r0 r1 (hB.mono (by omega))
      refine ⟨_, sqL_of ha, _, rfl, _, rfl, if_d (fun e => ?_) (fun e => ?_)⟩
      · refine ⟨_, sqL_of ha, _, rfl, _, rfl, by omega, _, sqL_of ha, _, rfl, _, rfl, cdiv_of (k := 100) (by omega) (Int.lt_of_le_of_lt m1 (by decide +kernel)) (by decide), _, ha, _, rfl, ?_⟩
        exact q1 _ _ (Int.emod_nonneg _ (by omega)) (Int.emod_lt_of_pos _ (by omega)) ⟨_, _, _, rfl, Int.ediv_nonneg x0 (by omega), y0, y1, z0, by omega⟩
      · have zb : z + 1 < 2 ^ 61 := by
          have : (2 : Int) ^ 61 = 2305843009213693952 := by decide
          have : (2 : Nat) ^ 60 = 1152921504606846976 := by decide
          omega
        have p1 : 179424691 * (z + 1) < 2 ^ (28 + 61) := mul_lt_pow (by decide) (by decide) (by omega) zb
        have p2 : y + 179424691 * (z + 1) < 2 ^ 161 := by
          have : (2 : Int) ^ 161 = 2 * 2 ^ 160 := by decide
          have : (2 : Int) ^ (28 + 61) ≤ 2 ^ 160 := pow_le (by decide)
          omega
        have p3 : ∀ c : Int, 0 ≤ c % (100000000000000000000000000000000000000000000 + 97) ∧ c % (100000000000000000000000000000000000000000000 + 97) < 2 ^ 147 := fun c =>
          ⟨Int.emod_nonneg c (by decide), Int.lt_trans (Int.emod_lt_of_pos c (by decide)) (by decide +kernel)⟩
        have p4 : 122949829 * (z + 1) < 2 ^ (28 + 61) := mul_lt_pow (by decide) (by decide) (by omega) zb
        have p5 : ∀ c : Int, c % (100000000000000000000000000000000000000000000 + 97) + 122949829 * (z + 1) < 2 ^ 148 := fun c => by
          have h := (p3 c).2
          have : (2 : Int) ^ 148 = 2 * 2 ^ 147 := by decide
          have : (2 : Int) ^ (28 + 61) ≤ 2 ^ 147 := pow_le (by decide)
          omega
        refine ⟨_, sqL_of ha, _, rfl, _, rfl, _, ha, _, rfl, _, sqL_of upd_same, _, rfl, _, sqL_of upd_same, _, rfl, _, rfl, mulx_of (a := 28) (b := 61) (by decide) (by decide) (by omega) zb (by decide), _, rfl, powW_ok (n := 161) (k := 3) (nn_lt (by omega) p2) (by decide), by decide, ?_⟩
        refine ⟨_, sqL_of upd_same, _, rfl, _, rfl, mulx_of (a := 28) (b := 61) (by decide) (by decide) (by omega) zb (by decide), powW_ok (n := 148) (k := 3) (nn_lt (by have := (p3 ((y + 179424691 * (z + 1)) ^ (3 : Int).toNat)).1; omega) (p5 _)) (by decide), by decide, cdiv_of (k := 20) (by decide) (by decide) (by decide), by omega, ?_⟩
        exact q1 _ _ (Int.emod_nonneg _ (by omega)) (Int.emod_lt_of_pos _ (by omega)) ⟨_, _, _, rfl, x0, y0, y1, by omega, by omega⟩)

theorem dip_do {a : Addr} {m : Int} {n : Nat} {H : Hp} {Q : VK} {E : XK} (hB : Br a n H) (hn : n ≤ 2 ^ 59) (m0 : 1 ≤ m) (m1 : m < 2 ^ (1000 : Nat)) (q : ∀ r o, 0 ≤ r → r < m → Br3 o (n + 20) → Q (.int r) (upd H a o)) : sp__law_dip [.ref a, .int m] H Q E :=
  ⟨a, m, n, rfl, hB, hn, m0, m1, q⟩
theorem lt1000 {m : Int} {k : Nat} (h : m < 2 ^ k) (hk : k ≤ 1000) : m < 2 ^ (1000 : Nat) := lt_pow h hk
theorem small1000' {m : Int} (h : m < 1000000000000000000000000000000) : m < 2 ^ (1000 : Nat) := lt1000 (k := 100) (Int.lt_trans h (by decide +kernel)) (by decide)

end
section
variable {P : Program} {w : World} {K : PySem.W.Frag} {mg : Str → Option Value} {base : Heap}
/-! ### a stretch drawn -/
def sp__law_stretch : Sp := fun vs H Q _ => ∃ (a : Addr) (bits n : Nat), vs = [.ref a, .int (bits : Int)] ∧ Br a n H ∧ n ≤ 2 ^ 58 ∧ 1 ≤ bits ∧ bits ≤ 240 ∧
  ∀ (p : Addr) (lo hi : Int) (H' : Hp), 0 ≤ lo → lo ≤ hi → hi < 2 ^ bits → But a H H' → Br a (n + 100) H' → H p = none → H' p = some (.tup [.int lo, .int hi]) → Q (.ref p) H'
theorem O__law_stretch (T : Txt K mg) : Ok P w K mg base CX0 3 "_law_stretch" ["_law_brook_here", "_law_bits"] sp__law_stretch :=
  Ok.mk0 T.f__law_stretch T.g__law_stretch sc__law_stretch (by rintro vs H Q E ⟨s, ns, k, rfl, _⟩; rfl) (fun _ _ _ _ _ _ us hl => match us, hl with | [_, _], _ => rfl) (fun f cdv A outer s H vs Q E hr h => by
    obtain ⟨a, bits, n, rfl, hB, hn, b0, b1, q⟩ := h
    refine ⟨_, (pss_cons (ps_par (i := 2) (j := 3) rfl sc__law_stretch.nd rfl rfl (by decide) rfl rfl (pa_cons (pe_op op_sub (pe_op op_oneShl pe_int (pv 1)) pe_int) (pa_cons (cal (O__law_dip T) hr (pa_cons (pv 0) (pa_cons pe_int pa_nil))) pa_nil)) (by rfl))
    (pss_cons (ps_set (i := 4) sc__law_stretch.nd rfl (.inl rfl) (pe_ix (ixL K) (pe_lst (pa_cons pe_int (pa_cons (pv 2) (pa_cons (cal (O__law_dip T) hr (pa_cons (pv 0) (pa_cons (pe_op op_add (pv 2) pe_int) pa_nil))) pa_nil)))) (cal (O__law_dip T) hr (pa_cons (pv 0) (pa_cons pe_int pa_nil))) (fun _ _ => rfl)))
    (pss_cons (ps_if (pt_cmpR op_lt (pv 3) pe_int (nomark _)) (pss_one (ps_ret (pe_ifExp (pt_cmpR op_eq (pv 3) pe_int (nomark _)) (pe_tup (pa_cons pe_int (pa_cons (pv 2) pa_nil))) (pe_tup (pa_cons (pv 4) (pa_cons (pv 4) pa_nil)))))) pss_nil)
    (pss_cons (ps_if (pt_cmpR op_eq (pv 3) pe_int (nomark _)) (pss_cons (ps_set (i := 5) sc__law_stretch.nd rfl (.inl rfl) (pe_op op_oneShl pe_int (cal (O__law_dip T) hr (pa_cons (pv 0) (pa_cons (pe_op op_add (pv 1) pe_int) pa_nil)))))
    (pss_cons (ps_set (i := 6) sc__law_stretch.nd rfl (.inl rfl) (pe_op op_mulX (pe_op op_fdivW (pv 4) (pv 5)) (pv 5)))
    (pss_one (ps_ret (pe_tup (pa_cons (pv 6) (pa_cons (pe_op op_sub (pe_op op_add (pv 6) (pv 5)) pe_int) pa_nil))))))) pss_nil)
    (pss_cons (ps_if (pt_cmpR op_eq (pv 3) pe_int (nomark _)) (pss_one (ps_ret (pe_ix (ixL K) (pe_lst (pa_cons (pe_tup (pa_cons pe_int (pa_cons (pe_op op_sub (pv 2) (pe_callB min2 (by rfl) T.n_min (by decide +kernel) (pa_cons (pv 2) (pa_cons pe_int pa_nil)))) pa_nil))) (pa_cons (pe_tup (pa_cons (pe_callB min2 (by rfl) T.n_min (by decide +kernel) (pa_cons pe_int (pa_cons (pv 2) pa_nil))) (pa_cons (pv 2) pa_nil))) pa_nil))) (cal (O__law_dip T) hr (pa_cons (pv 0) (pa_cons pe_int pa_nil))) (fun _ _ => rfl)))) pss_nil)
    (pss_cons (ps_set (i := 7) sc__law_stretch.nd rfl (.inl rfl) (pe_op op_add (pv 4) (cal (O__law_dip T) hr (pa_cons (pv 0) (pa_cons (pe_op op_add (pe_op op_sub (pv 2) (pv 4)) pe_int) pa_nil)))))
    (pss_one (ps_ret (pe_tup (pa_cons (pe_callB min2 (by rfl) T.n_min (by decide +kernel) (pa_cons (pv 4) (pa_cons (pv 7) pa_nil))) (pa_cons (pv 7) pa_nil))))))))))), ?_⟩
    walk_at "vc"
    have p58 : (2 : Nat) ^ 58 = 288230376151711744 := by decide
    have p59 : (2 : Nat) ^ 59 = 576460752303423488 := by decide
    have tb := pow_pos' bits
    have tb2 : (2 : Int) ≤ 2 ^ bits := pow_le (a := 1) b0
    refine ⟨bits, rfl, by omega, dip_do hB (by omega) (by decide) (small1000' (by decide)) fun way o1 w0 w1 hB1 => ?_⟩
    refine dip_do (n := n + 20) (Br.put hB1) (by omega) (by omega) (lt1000 (k := 241) (by have := pow_le (a := bits + 1) (b := 241) (by omega); rw [Int.pow_succ] at this; omega) (by decide)) fun d o2 d0 d1 hB2 => ⟨le_size (by decide), fun p np => ?_⟩
    rw [upd_upd] at np ⊢
    have bH : But a H (upd H a o2) := But.refl.at
    have npa : p ≠ a := fun e => by
      rw [e, upd_same] at np
      cases np
    refine dip_do (n := n + 20 + 20) ((Br.put hB2).new np) (by omega) (by decide) (small1000' (by decide)) fun c o3 c0 c1 hB3 => ?_
    walk_at "vc"
    have hone : ∃ one : Int, 0 ≤ one ∧ one ≤ 2 ^ bits - 1 ∧ atI [V.int 0, V.int (2 ^ bits - 1), V.int d] c = some (V.int one) := by
      rcases (show c = 0 ∨ c = 1 ∨ c = 2 by omega) with e | e | e
      · exact ⟨0, by omega, by omega, by rw [e]; rfl⟩
      · exact ⟨_, by omega, Int.le_refl _, by rw [e]; rfl⟩
      · exact ⟨d, by omega, by omega, by rw [e]; rfl⟩
    obtain ⟨one, n0, n1, hat⟩ := hone
    have B3 : Br a (n + 60) (upd (upd (upd H a o2) p (.lst [.int 0, .int (2 ^ bits - 1), .int d])) a o3) := (Br.put hB3).mono (by omega)
    have b3 : But a H (upd (upd (upd H a o2) p (.lst [.int 0, .int (2 ^ bits - 1), .int d])) a o3) := (bH.new np).at
    refine ⟨_, sqL_of (by rw [upd_ne npa]; exact upd_same), _, hat, ?_⟩
    generalize upd (upd (upd H a o2) p (.lst [.int 0, .int (2 ^ bits - 1), .int d])) a o3 = H3 at b3 B3
    have fin : ∀ (q4 : Addr) (lo hi : Int) (H4 : Hp), H4 q4 = none → But a H H4 → Br a (n + 100) H4 → 0 ≤ lo → lo ≤ hi → hi < 2 ^ bits → Q (.ref q4) (upd H4 q4 (.tup [.int lo, .int hi])) := fun q4 lo hi H4 n4 b4 B4 l0 l1 l2 => by
      have ne4 : q4 ≠ a := fun e => by
        obtain ⟨o, h, _⟩ := B4
        rw [← e, n4] at h
        cases h
      exact q q4 lo hi _ l0 l1 l2 (b4.new n4) (B4.new n4) (b4.fresh ne4 n4) upd_same
    refine if_d (fun e => ?_) (fun e => ?_)
    · refine if_d (fun e => ?_) (fun e => ?_)
      · exact ⟨le_size (by decide), fun q4 n4 => fin q4 _ _ _ n4 b3 (B3.mono (by omega)) (Int.le_refl _) (by omega) (by omega)⟩
      · exact ⟨le_size (by decide), fun q4 n4 => fin q4 _ _ _ n4 b3 (B3.mono (by omega)) n0 (Int.le_refl _) (by omega)⟩
    refine if_d (fun e => ?_) (fun e => ?_)
    · refine dip_do (n := n + 60) B3 (by omega) (by omega) (small1000' (by omega)) fun h o4 h0 h1 hB4 => ?_
      have hk : h.toNat ≤ bits := by omega
      have eh : h = (h.toNat : Int) := by omega
      have P := pow_pos' h.toNat
      have P2 : (2 : Int) ^ h.toNat ≤ 2 ^ bits := pow_le hk
      have e0 : one / 2 ^ h.toNat * 2 ^ h.toNat ≤ one := Int.ediv_mul_le _ (by omega)
      have e1 : 0 ≤ one / 2 ^ h.toNat := Int.ediv_nonneg n0 (by omega)
      have e1' : one / 2 ^ h.toNat ≤ one := Int.ediv_le_self _ n0
      have e2 : 0 ≤ one / 2 ^ h.toNat * 2 ^ h.toNat := Int.mul_nonneg e1 (by omega)
      have e3 : one / 2 ^ h.toNat * 2 ^ h.toNat + 2 ^ h.toNat ≤ 2 ^ bits := by
        have hs : (2 : Int) ^ bits = 2 ^ (bits - h.toNat) * 2 ^ h.toNat := by rw [← Int.pow_add, Nat.sub_add_cancel hk]
        have hd : one / 2 ^ h.toNat < 2 ^ (bits - h.toNat) := (Int.ediv_lt_iff_lt_mul P).mpr (by rw [← hs]; omega)
        have hm := Int.mul_le_mul_of_nonneg_right (show one / 2 ^ h.toNat + 1 ≤ 2 ^ (bits - h.toNat) by omega) (show (0 : Int) ≤ 2 ^ h.toNat by omega)
        rw [← hs, Int.add_mul, Int.one_mul] at hm
        exact hm
      refine ⟨h.toNat, by rw [← eh], by omega, one, rfl, cdiv_pow (by omega), mulx_of (a := bits) (b := bits + 1) e1 (by omega) (by omega) (by rw [Int.pow_succ]; omega) (by omega), le_size (by decide), fun q4 n4 => ?_⟩
      exact fin q4 _ _ _ n4 b3.at ((Br.put hB4).mono (by omega)) e2 (by omega) (by omega)
    refine if_d (fun e => ?_) (fun e => ?_)
    · refine ⟨le_size (by decide), fun p1 n1 => ⟨le_size (by decide), fun p2 n2 => ⟨le_size (by decide), fun p3 n3 => ?_⟩⟩⟩
      have fin2 : ∀ (q4 : Addr) (lo hi : Int) (H4 : Hp), H4 q4 = some (.tup [.int lo, .int hi]) → H3 q4 = none → But a H H4 → Br a (n + 100) H4 → 0 ≤ lo → lo ≤ hi → hi < 2 ^ bits → Q (.ref q4) H4 := fun q4 lo hi H4 h4 n4 b4 B4 l0 l1 l2 => by
        exact q q4 lo hi _ l0 l1 l2 b4 B4 (b3.fresh (B3.apart n4) n4) h4
      have n2' : H3 p2 = none := none_of n2
      refine dip_do (n := n + 60) (Br.new (Br.new (Br.new B3 n1) n2) n3) (by omega) (by decide) (small1000' (by decide)) fun h o4 h0 h1 hB4 => ?_
      have nea : p1 ≠ a ∧ p2 ≠ a ∧ p3 ≠ a := ⟨B3.apart n1, B3.apart n2', ((B3.new n1).new n2).apart n3⟩
      rcases (show h = 0 ∨ h = 1 by omega) with e | e
      · refine ⟨_, h, rfl, sqL_of (upd_at nea.2.2 upd_same), .ref p1, by rw [e]; rfl, ?_⟩
        refine fin2 p1 _ _ _ (upd_at nea.1 (upd_new n3 (upd_new n2 upd_same))) n1 (((b3.new n1).new n2).new n3).at ((Br.put hB4).mono (by omega)) (Int.le_refl _) ?_ ?_ <;> split <;> omega
      · refine ⟨_, h, rfl, sqL_of (upd_at nea.2.2 upd_same), .ref p2, by rw [e]; rfl, ?_⟩
        refine fin2 p2 _ _ _ (upd_at nea.2.1 (upd_new n3 upd_same)) n2' (((b3.new n1).new n2).new n3).at ((Br.put hB4).mono (by omega)) ?_ ?_ (by omega) <;> split <;> omega
    · walk_at "vc"
      refine dip_do (n := n + 60) B3 (by omega) (by omega) (lt1000 (k := 241) (by have := pow_le (a := bits + 1) (b := 241) (by omega); rw [Int.pow_succ] at this; omega) (by decide)) fun h o4 h0 h1 hB4 => ?_
      refine ⟨_, rfl, le_size (by decide), fun q4 n4 => ?_⟩
      exact fin q4 _ _ _ n4 b3.at ((Br.put hB4).mono (by omega)) (by split <;> omega) (by split <;> omega) (by omega))

end
section
variable {P : Program} {w : World} {K : PySem.W.Frag} {mg : Str → Option Value} {base : Heap}
def sp_blocks_in : Sp := fun vs H Q _ => ∃ (bits told : Nat) (lo hi : Int), vs = [.int (bits : Int), .int lo, .int hi, .int (told : Int)] ∧ told ≤ bits ∧ bits ≤ 240 ∧ Q (.int (blk (2 ^ (bits - told)) lo hi)) H
theorem O_blocks_in (T : Txt K mg) : Ok P w K mg base CX0 1 "blocks_in" ["bits", "low", "high", "told"] sp_blocks_in :=
  Ok.mk0 T.f_blocks_in T.g_blocks_in sc_blocks_in (by rintro vs H Q E ⟨_, _, _, _, rfl, _⟩; rfl) (fun _ _ _ _ _ _ us hl => match us, hl with | [_, _, _, _], _ => rfl) (fun f cdv A outer s H vs Q E hr h => by
    obtain ⟨bits, told, lo, hi, rfl, h1, h2, q⟩ := h
    refine ⟨_, (pss_cons (ps_set (i := 4) sc_blocks_in.nd rfl (.inl rfl) (pe_op op_oneShl pe_int (pe_op op_sub (pv 0) (pv 3))))
    (pss_one (ps_ret (pe_callB max2 (by rfl) T.n_max (by decide +kernel) (pa_cons pe_int (pa_cons (pe_op op_sub (pe_op op_fdivW (pe_op op_add (pv 2) pe_int) (pv 4)) (pe_op op_fdivW (pe_op op_sub (pe_op op_add (pv 1) (pv 4)) pe_int) (pv 4))) pa_nil)))))), ?_⟩
    walk_at "vc"
    have e : (bits : Int) - told = ((bits - told : Nat) : Int) := by omega
    exact ⟨bits - told, e, by omega, cdiv_pow (by omega), cdiv_pow (by omega), q⟩)
def sp_middles_in : Sp := fun vs H Q _ => ∃ (bits told : Nat) (lo hi : Int), vs = [.int (bits : Int), .int lo, .int hi, .int (told : Int)] ∧ told < bits ∧ bits ≤ 240 ∧ Q (.int (mid (2 ^ (bits - told - 1)) lo hi)) H
theorem O_middles_in (T : Txt K mg) : Ok P w K mg base CX0 1 "middles_in" ["bits", "low", "high", "told"] sp_middles_in :=
  Ok.mk0 T.f_middles_in T.g_middles_in sc_middles_in (by rintro vs H Q E ⟨_, _, _, _, rfl, _⟩; rfl) (fun _ _ _ _ _ _ us hl => match us, hl with | [_, _, _, _], _ => rfl) (fun f cdv A outer s H vs Q E hr h => by
    obtain ⟨bits, told, lo, hi, rfl, h1, h2, q⟩ := h
    refine ⟨_, (pss_cons (ps_set (i := 4) sc_middles_in.nd rfl (.inl rfl) (pe_op op_oneShl pe_int (pe_op op_sub (pe_op op_sub (pv 0) (pv 3)) pe_int)))
    (pss_one (ps_ret (pe_op op_add (pe_op op_sub (pe_op op_sub (pe_op op_fdivW (pv 2) (pv 4)) (pe_op op_fdivW (pv 1) (pv 4))) (pe_op op_fdivW (pv 2) (pe_op op_mulX pe_int (pv 4)))) (pe_op op_fdivW (pv 1) (pe_op op_mulX pe_int (pv 4))))))), ?_⟩
    walk_at "vc"
    have e : (bits : Int) - told - 1 = ((bits - told - 1 : Nat) : Int) := by omega
    have p := pow_pos' (bits - told - 1)
    have c : CMulX 2 (2 ^ (bits - told - 1)) := mulx_of (a := 2) (b := bits - told - 1 + 1) (by decide) (by decide) (by omega) (by rw [Int.pow_succ]; omega) (by omega)
    have d : ∀ z : Int, CDivW z (2 * 2 ^ (bits - told - 1)) := fun z => cdiv_of (k := bits - told - 1 + 2) (by omega) (by rw [Int.pow_succ, Int.pow_succ]; omega) (by omega)
    exact ⟨bits - told - 1, e, by omega, cdiv_pow (by omega), cdiv_pow (by omega), c, d _, c, d _, q⟩)
def sp_is_int : Sp := fun vs H Q _ => ∃ i : Int, vs = [.int i] ∧ Q (.bl true) H
theorem O_is_int (T : Txt K mg) : Ok P w K mg base CX0 1 "is_int" ["value"] sp_is_int :=
  Ok.mk0 T.f_is_int T.g_is_int sc_is_int (by rintro vs H Q E ⟨_, rfl, _⟩; rfl) (fun _ _ _ _ _ _ us hl => match us, hl with | [_], _ => rfl) (fun f cdv A outer s H vs Q E hr h => by
    obtain ⟨i, rfl, q⟩ := h
    refine ⟨_, (pss_one (ps_ret (pe_and (pe_callB (isi K) (by rfl) T.n_isinstance (by decide +kernel) (pa_cons (pv 0) (pa_cons (pe_bltn (v := .ty "int") rfl T.n_int (by decide +kernel) rfl) pa_nil))) (pe_one (pe_not (pe_callB (isi K) (by rfl) T.n_isinstance (by decide +kernel) (pa_cons (pv 0) (pa_cons (pe_bltn (v := .ty "bool") rfl T.n_bool (by decide +kernel) rfl) pa_nil)))))))), ?_⟩
    walk_at "vc"
    exact q)
def sp_require_number : Sp := fun vs H Q _ => ∃ i lo hi : Int, vs = [.int i, .int lo, .int hi] ∧ lo ≤ i ∧ i ≤ hi ∧ Q .non H
theorem O_require_number (T : Txt K mg) : Ok P w K mg base CX0 2 "require_number" ["value", "low", "high"] sp_require_number :=
  Ok.mk0 T.f_require_number T.g_require_number sc_require_number (by rintro vs H Q E ⟨_, _, _, rfl, _⟩; rfl) (fun _ _ _ _ _ _ us hl => match us, hl with | [_, _, _], _ => rfl) (fun f cdv A outer s H vs Q E hr h => by
    obtain ⟨i, lo, hi, rfl, h1, h2, q⟩ := h
    refine ⟨_, (pss_one (ps_if (PW.pt (pw_or (pt_not (pt_val (cal (O_is_int T) hr (pa_cons (pv 0) pa_nil)))) (pw_or (pt_cmpR op_lt (pv 0) (pv 1) (nomark _)) (pw_or1 (PW.pt (pw_and (pt_cmpR op_notN (pv 2) pe_non (nomark _)) (pw_and1 (pt_cmpR op_gt (pv 0) (pv 2) (nomark _))))))))) (pss_one ps_never) pss_nil)), ?_⟩
    walk_at "vc"
    exact ⟨i, rfl, _, rfl, if_f rfl (if_d (fun e => by omega) fun _ => if_d (fun e => by omega) fun _ => q)⟩)
def sp_is_stretch : Sp := fun vs H Q _ => ∃ (bits : Nat) (t : Addr) (lo hi : Int), vs = [.int (bits : Int), .ref t] ∧ bits ≤ 240 ∧ H t = some (.tup [.int lo, .int hi]) ∧ 0 ≤ lo ∧ lo ≤ hi ∧ hi < 2 ^ bits ∧ Q (.bl true) H
theorem O_is_stretch (T : Txt K mg) : Ok P w K mg base CX0 2 "is_stretch" ["bits", "value"] sp_is_stretch :=
  Ok.mk0 T.f_is_stretch T.g_is_stretch sc_is_stretch (by rintro vs H Q E ⟨_, _, _, _, rfl, _⟩; rfl) (fun _ _ _ _ _ _ us hl => match us, hl with | [_, _], _ => rfl) (fun f cdv A outer s H vs Q E hr h => by
    obtain ⟨bits, t, lo, hi, rfl, h0, ht, h1, h2, h3, q⟩ := h
    refine ⟨_, (pss_cons (ps_if (PW.pt (pw_or (pt_not (pt_val (pe_callB (isi K) (by rfl) T.n_isinstance (by decide +kernel) (pa_cons (pv 1) (pa_cons (pe_bltn (v := .ty "tuple") rfl T.n_tuple (by decide +kernel) rfl) pa_nil))))) (pw_or (pt_cmpR op_ne (pe_callB (lenU K) (by rfl) T.n_len (by decide +kernel) (pa_cons (pv 1) pa_nil)) pe_int (nomark _)) (pw_or (pt_not (pt_val (cal (O_is_int T) hr (pa_cons (pe_ix (ixT K) (pv 1) pe_int (fun _ _ => rfl)) pa_nil)))) (pw_or1 (pt_not (pt_val (cal (O_is_int T) hr (pa_cons (pe_ix (ixT K) (pv 1) pe_int (fun _ _ => rfl)) pa_nil))))))))) (pss_one (ps_ret pe_bl)) pss_nil)
    (pss_one (ps_ret (pe_and (pe_chain op_le op_le pe_int (pe_ix (ixT K) (pv 1) pe_int (fun _ _ => rfl)) (pe_ix (ixT K) (pv 1) pe_int (fun _ _ => rfl))) (pe_one (pe_cmpR op_eq (pe_op op_shrN (pe_ix (ixT K) (pv 1) pe_int (fun _ _ => rfl)) (pv 0)) pe_int (nomark _))))))), ?_⟩
    walk_at "vc"
    refine isi_tt ht (if_f rfl ⟨_, .inr ⟨_, sqT_of ht, rfl⟩, ?_⟩)
    walk_at "vc"
    refine if_f rfl ⟨_, sqT_of ht, _, rfl, _, rfl, ?_⟩
    walk_at "vc"
    refine ⟨_, sqT_of ht, _, rfl, _, rfl, ?_⟩
    walk_at "vc"
    refine ⟨_, sqT_of ht, _, rfl, _, rfl, if_d (fun _ => ⟨_, sqT_of ht, _, rfl, _, rfl, _, rfl, if_d (fun _ => ⟨_, sqT_of ht, _, rfl, _, rfl, bits, rfl, ?_⟩) (fun e => by omega)⟩) (fun e => by omega)⟩
    rw [decide_eq_true (Int.ediv_eq_zero_of_lt (by omega) h3)]
    exact q)
def sp_require_stretch : Sp := fun vs H Q _ => ∃ (bits : Nat) (t : Addr) (lo hi : Int), vs = [.int (bits : Int), .ref t] ∧ bits ≤ 240 ∧ H t = some (.tup [.int lo, .int hi]) ∧ 0 ≤ lo ∧ lo ≤ hi ∧ hi < 2 ^ bits ∧ Q .non H
theorem O_require_stretch (T : Txt K mg) : Ok P w K mg base CX0 3 "require_stretch" ["bits", "value"] sp_require_stretch :=
  Ok.mk0 T.f_require_stretch T.g_require_stretch sc_require_stretch (by rintro vs H Q E ⟨_, _, _, _, rfl, _⟩; rfl) (fun _ _ _ _ _ _ us hl => match us, hl with | [_, _], _ => rfl) (fun f cdv A outer s H vs Q E hr h => by
    obtain ⟨bits, t, lo, hi, rfl, h0, ht, h1, h2, h3, q⟩ := h
    refine ⟨_, (pss_one (ps_if (pt_not (pt_val (cal (O_is_stretch T) hr (pa_cons (pv 0) (pa_cons (pv 1) pa_nil))))) (pss_one ps_never) pss_nil)), ?_⟩
    walk_at "vc"
    refine ⟨bits, t, lo, hi, rfl, h0, ht, h1, h2, h3, ?_⟩
    walk_at "vc"
    exact q)
def sp_count_blocks : Sp := fun vs H Q _ => ∃ (bits told : Nat) (t : Addr) (lo hi : Int), vs = [.int (bits : Int), .ref t, .int (told : Int)] ∧ 1 ≤ bits ∧ bits ≤ 120 ∧ told ≤ bits ∧ H t = some (.tup [.int lo, .int hi]) ∧ 0 ≤ lo ∧ lo ≤ hi ∧ hi < 2 ^ bits ∧ Q (.int (blk (2 ^ (bits - told)) lo hi)) H
theorem O_count_blocks (T : Txt K mg) : Ok P w K mg base CX0 4 "count_blocks" ["bits", "stretch", "told"] sp_count_blocks :=
  Ok.mk0 T.f_count_blocks T.g_count_blocks sc_count_blocks (by rintro vs H Q E ⟨_, _, _, _, _, rfl, _⟩; rfl) (fun _ _ _ _ _ _ us hl => match us, hl with | [_, _, _], _ => rfl) (fun f cdv A outer s H vs Q E hr h => by
    obtain ⟨bits, told, t, lo, hi, rfl, h1, h2, h3, ht, h4, h5, h6, q⟩ := h
    refine ⟨_, (pss_cons (ps_expr (cal (O_require_number T) hr (pa_cons (pv 0) (pa_cons pe_int (pa_cons (pe_gint T.c_MOST_BITS) pa_nil)))))
    (pss_cons (ps_expr (cal (O_require_stretch T) hr (pa_cons (pv 0) (pa_cons (pv 1) pa_nil))))
    (pss_cons (ps_expr (cal (O_require_number T) hr (pa_cons (pv 2) (pa_cons pe_int (pa_cons (pv 0) pa_nil)))))
    (pss_one (ps_ret (cal (O_blocks_in T) hr (pa_cons (pv 0) (pa_cons (pe_ix (ixT K) (pv 1) pe_int (fun _ _ => rfl)) (pa_cons (pe_ix (ixT K) (pv 1) pe_int (fun _ _ => rfl)) (pa_cons (pv 2) pa_nil)))))))))), ?_⟩
    walk_at "vc"
    refine ⟨_, _, _, rfl, by omega, by omega, bits, t, lo, hi, rfl, by omega, ht, h4, h5, h6, _, _, _, rfl, by omega, by omega, _, sqT_of ht, _, rfl, _, sqT_of ht, _, rfl, ?_⟩
    exact ⟨bits, told, lo, hi, rfl, by omega, by omega, q⟩)
def sp_count_middles : Sp := fun vs H Q _ => ∃ (bits told : Nat) (t : Addr) (lo hi : Int), vs = [.int (bits : Int), .ref t, .int (told : Int)] ∧ 1 ≤ bits ∧ bits ≤ 120 ∧ told < bits ∧ H t = some (.tup [.int lo, .int hi]) ∧ 0 ≤ lo ∧ lo ≤ hi ∧ hi < 2 ^ bits ∧ Q (.int (mid (2 ^ (bits - told - 1)) lo hi)) H
theorem O_count_middles (T : Txt K mg) : Ok P w K mg base CX0 4 "count_middles" ["bits", "stretch", "told"] sp_count_middles :=
  Ok.mk0 T.f_count_middles T.g_count_middles sc_count_middles (by rintro vs H Q E ⟨_, _, _, _, _, rfl, _⟩; rfl) (fun _ _ _ _ _ _ us hl => match us, hl with | [_, _, _], _ => rfl) (fun f cdv A outer s H vs Q E hr h => by
    obtain ⟨bits, told, t, lo, hi, rfl, h1, h2, h3, ht, h4, h5, h6, q⟩ := h
    refine ⟨_, (pss_cons (ps_expr (cal (O_require_number T) hr (pa_cons (pv 0) (pa_cons pe_int (pa_cons (pe_gint T.c_MOST_BITS) pa_nil)))))
    (pss_cons (ps_expr (cal (O_require_stretch T) hr (pa_cons (pv 0) (pa_cons (pv 1) pa_nil))))
    (pss_cons (ps_expr (cal (O_require_number T) hr (pa_cons (pv 2) (pa_cons pe_int (pa_cons (pe_op op_sub (pv 0) pe_int) pa_nil)))))
    (pss_one (ps_ret (cal (O_middles_in T) hr (pa_cons (pv 0) (pa_cons (pe_ix (ixT K) (pv 1) pe_int (fun _ _ => rfl)) (pa_cons (pe_ix (ixT K) (pv 1) pe_int (fun _ _ => rfl)) (pa_cons (pv 2) pa_nil)))))))))), ?_⟩
    walk_at "vc"
    refine ⟨_, _, _, rfl, by omega, by omega, bits, t, lo, hi, rfl, by omega, ht, h4, h5, h6, _, _, _, rfl, by omega, by omega, _, sqT_of ht, _, rfl, _, sqT_of ht, _, rfl, ?_⟩
    exact ⟨bits, told, lo, hi, rfl, by omega, by omega, q⟩)
end
section
variable {P : Program} {w : World} {K : PySem.W.Frag} {mg : Str → Option Value} {base : Heap}
def sp__law_same (K : PySem.W.Frag) : Sp := fun vs H Q _ => ∃ (x y : V) (d : PyData) (h n : Nat), vs = [x, y] ∧ Dp K H x d ∧ Dp K H y d ∧ DOk h n d ∧ h ≤ 60 ∧ n ≤ 100000 ∧ Q (.bl true) H
theorem O__law_same (T : Txt K mg) : OkG P w K mg base CX0 1 "_law_same" ["_law_actual", "_law_expected"] (sp__law_same K) :=
  OkG.mk0 T.f__law_same T.g__law_same sc__law_same (by rintro vs H Q E ⟨x, y, d, h, n, rfl, _⟩; rfl) (fun _ _ _ _ _ _ us hl => match us, hl with | [_, _], _ => rfl) (fun f cdv A outer s H vs Q E hr gd h => by
    obtain ⟨x, y, d, h, n, rfl, hx, hy, hd, h1, h2, q⟩ := h
    refine ⟨_, (pss_one (ps_ret (pe_cmpR op_eq (pe_callB (reprD K hr gd) (by rfl) T.n_repr (by decide +kernel) (pa_cons (pv 0) pa_nil)) (pe_callB (reprD K hr gd) (by rfl) T.n_repr (by decide +kernel) (pa_cons (pv 1) pa_nil)) (nomark _)))), ?_⟩
    walk_at "vc"
    refine repr_do hx hd h1 h2 (repr_do hy hd h1 h2 ?_)
    walk_at "vc"
    exact q)
theorem same_do {x y : V} {d : PyData} {h n : Nat} {H : Hp} {Q : VK} {E : XK} (hx : Dp K H x d) (hy : Dp K H y d) (hd : DOk h n d) (q : Q (.bl true) H) (h1 : h ≤ 60 := by decide) (h2 : n ≤ 100000 := by decide) : sp__law_same K [x, y] H Q E :=
  ⟨x, y, d, h, n, rfl, hx, hy, hd, h1, h2, q⟩

def sp__law_due : Sp := fun vs H Q _ => ∃ (bits told : Nat) (t : Addr) (lo hi : Int), vs = [.int (bits : Int), .ref t, .int (told : Int)] ∧ bits ≤ 9 ∧ told ≤ bits ∧ H t = some (.tup [.int lo, .int hi]) ∧ 0 ≤ lo ∧ lo ≤ hi ∧ hi < 2 ^ bits ∧
  ∀ p m, H p = none → (told < bits → m = mid (2 ^ (bits - told - 1)) lo hi) → Q (.ref p) (upd H p (.lst [.int (blk (2 ^ (bits - told)) lo hi), .int m]))
theorem O__law_due (T : Txt K mg) : Ok P w K mg base CX0 1 "_law_due" ["_law_bits", "_law_stretch_here", "_law_told"] sp__law_due :=
  Ok.mk0 T.f__law_due T.g__law_due sc__law_due (by rintro vs H Q E ⟨_, _, _, _, _, rfl, _⟩; rfl) (fun _ _ _ _ _ _ us hl => match us, hl with | [_, _, _], _ => rfl) (fun f cdv A outer s H vs Q E hr h => by
    obtain ⟨bits, told, t, lo, hi, rfl, h1, h2, ht, h3, h4, h5, q⟩ := h
    refine ⟨_, (pss_cons (ps_par (i := 3) (j := 4) rfl sc__law_due.nd rfl rfl (by decide) rfl rfl (pa_cons (pe_op op_oneShl pe_int (pe_op op_sub (pv 0) (pv 2))) (pa_cons (pe_lst (pa_cons pe_int (pa_cons pe_int pa_nil))) pa_nil)) (by rfl))
    (pss_cons (ps_for PassesOwn.never rfl (pi_range1 (by rfl) T.n_range (pa_cons (pe_op op_oneShl pe_int (pv 2)) pa_nil)) (pg_name (i := 5) sc__law_due.nd rfl (.inl rfl)) (pss_cons (ps_asg (pe_op op_add (pe_ix (ixL K) (pv 4) pe_int (fun _ _ => rfl)) (pe_callTy intB (by rfl) T.n_int (by decide +kernel) (pa_cons (pe_and (pe_cmpR op_le (pe_ix (ixT K) (pv 1) pe_int (fun _ _ => rfl)) (pe_op op_mulX (pv 5) (pv 3)) (nomark _)) (pe_one (pe_cmpR op_le (pe_op op_sub (pe_op op_mulX (pe_op op_add (pv 5) pe_int) (pv 3)) pe_int) (pe_ix (ixT K) (pv 1) pe_int (fun _ _ => rfl)) (nomark _)))) pa_nil))) (pg_sub (pv 4) pe_int set_list))
    (pss_cons (ps_set (i := 6) sc__law_due.nd rfl (.inl rfl) (pe_op op_add (pe_op op_mulX (pv 5) (pv 3)) (pe_op op_fdivW (pv 3) pe_int)))
    (pss_one (ps_asg (pe_op op_add (pe_ix (ixL K) (pv 4) pe_int (fun _ _ => rfl)) (pe_callTy intB (by rfl) T.n_int (by decide +kernel) (pa_cons (pe_and (pe_chain op_lt op_le (pe_ix (ixT K) (pv 1) pe_int (fun _ _ => rfl)) (pv 6) (pe_ix (ixT K) (pv 1) pe_int (fun _ _ => rfl))) (pe_one (pe_cmpR op_lt (pv 2) (pv 0) (nomark _)))) pa_nil))) (pg_sub (pv 4) pe_int set_list))))))
    (pss_one (ps_ret (pv 4))))), ?_⟩
    walk_at "vc"
    have ek : (bits : Int) - told = ((bits - told : Nat) : Int) := by omega
    have pS := pow_pos' (bits - told)
    have pT := pow_pos' told
    have pT9 : (2 : Int) ^ told ≤ 2 ^ 9 := pow_le (by omega)
    have pS9 : (2 : Int) ^ (bits - told) ≤ 2 ^ 9 := pow_le (by omega)
    have e9 : (2 : Int) ^ 9 = 512 := by decide
    have e62 : (2 : Int) ^ 62 = 4611686018427387904 := by decide
    refine ⟨bits - told, ek, by omega, le_size (by decide), fun p np => ⟨told, rfl, by omega, by omega, by omega, ?_⟩⟩
    generalize hS : (2 : Int) ^ (bits - told) = S at *
    have htp : t ≠ p := ne_of_none ht np
    refine loop_r0 (fun i σ' H' => ∃ (m : Int) (y5 y6 : Option V), σ' = [some (.int (bits : Int)), some (.ref t), some (.int (told : Int)), some (.int S), some (.ref p), y5, y6] ∧ (told < bits → m = cntM (2 ^ (bits - told - 1)) lo hi i) ∧ H' = upd H p (.lst [.int (cntB S lo hi i), .int m]))
      ⟨0, none, none, rfl, fun _ => rfl, rfl⟩ ?_ ?_
    · rintro i σ' H' hit ⟨m, y5, y6, rfl, hm, rfl⟩
      walk_at "vc"
      have hi512 : (i : Int) < 512 := by omega
      have S9 : S ≤ 512 := by omega
      have cm : ∀ j : Int, 0 ≤ j → j ≤ 512 → CMulX j S := fun j j0 j1 => mulx_of (a := 10) (b := 10) j0 (Int.lt_of_le_of_lt j1 (by decide)) (by omega) (Int.lt_of_le_of_lt S9 (by decide)) (by decide)
      have cd2 : CDivW S 2 := cdiv_of (k := 2) (by decide) (by decide) (by decide)
      have hbT : lo ≤ (i : Int) * S → cntB S lo hi i + (if decide (((i : Int) + 1) * S - 1 ≤ hi) = true then 1 else 0) = cntB S lo hi (i + 1) := fun e => by
        show _ = cntB S lo hi i + _
        rw [decide_eq_true e, Bool.true_and]
      have hbF : ¬ lo ≤ (i : Int) * S → cntB S lo hi i + 0 = cntB S lo hi (i + 1) := fun e => by
        show _ = cntB S lo hi i + _
        rw [decide_eq_false e, Bool.false_and, if_neg Bool.false_ne_true]
      have hS2 : told < bits → (i : Int) * S + S / 2 = (i : Int) * (2 * 2 ^ (bits - told - 1)) + 2 ^ (bits - told - 1) := fun z => by
        have : S = 2 * 2 ^ (bits - told - 1) := by
          rw [← hS, Int.mul_comm, ← Int.pow_succ]
          congr 1
          omega
        rw [this, Int.mul_ediv_cancel_left _ (by decide)]
      have hmT : lo < (i : Int) * S + S / 2 → (i : Int) * S + S / 2 ≤ hi → told < bits → m + (if decide ((told : Int) < bits) = true then 1 else 0) = cntM (2 ^ (bits - told - 1)) lo hi (i + 1) := fun a b z => by
        rw [hS2 z] at a b
        show _ = cntM (2 ^ (bits - told - 1)) lo hi i + _
        rw [decide_eq_true a, decide_eq_true b, decide_eq_true (show (told : Int) < bits by omega), hm z]
        rfl
      have hmG : ¬ (i : Int) * S + S / 2 ≤ hi → told < bits → m + 0 = cntM (2 ^ (bits - told - 1)) lo hi (i + 1) := fun b z => by
        rw [hS2 z] at b
        show _ = cntM (2 ^ (bits - told - 1)) lo hi i + _
        rw [decide_eq_false b, Bool.and_false, if_neg Bool.false_ne_true, hm z]
      have hmF : ¬ lo < (i : Int) * S + S / 2 → told < bits → m + 0 = cntM (2 ^ (bits - told - 1)) lo hi (i + 1) := fun b z => by
        rw [hS2 z] at b
        show _ = cntM (2 ^ (bits - told - 1)) lo hi i + _
        rw [decide_eq_false b, Bool.false_and, if_neg Bool.false_ne_true, hm z]
      have eB : ∀ b : Int, b = cntB S lo hi (i + 1) → ∀ m' : Int, upd (upd (upd H p (.lst [.int (cntB S lo hi i), .int m])) p (.lst [.int b, .int m])) p (.lst [.int b, .int m']) = upd H p (.lst [.int (cntB S lo hi (i + 1)), .int m']) := fun b e m' => by
        rw [upd_upd, upd_upd, e]
      have th := upd_at (o := .lst [.int (cntB S lo hi i), .int m]) htp ht
      refine ⟨_, sqL_of upd_same, _, rfl, _, sqT_of th, _, rfl, cm _ (by omega) (by omega), _, rfl, if_d (fun e1 => ⟨cm _ (by omega) (by omega), _, sqT_of th, _, rfl, _, rfl, _, rfl, _, upd_same, _, rfl, cm _ (by omega) (by omega), cd2, _, sqL_of upd_same, _, rfl, _, sqT_of (upd_at htp th), _, rfl, ?_⟩) (fun e1 => ⟨_, rfl, _, upd_same, _, rfl, cm _ (by omega) (by omega), cd2, _, sqL_of upd_same, _, rfl, _, sqT_of (upd_at htp th), _, rfl, ?_⟩)⟩
      · exact ⟨_, rfl, if_d (fun e2 => ⟨_, sqT_of (upd_at htp th), _, rfl, _, rfl, if_d (fun e3 => ⟨_, rfl, _, upd_same, _, rfl, _, hmT e2 e3, eB _ (hbT e1) _⟩) (fun e3 => ⟨_, rfl, _, upd_same, _, rfl, _, hmG e3, eB _ (hbT e1) _⟩)⟩) (fun e2 => ⟨_, rfl, _, upd_same, _, rfl, _, hmF e2, eB _ (hbT e1) _⟩)⟩
      · exact ⟨_, rfl, if_d (fun e2 => ⟨_, sqT_of (upd_at htp th), _, rfl, _, rfl, if_d (fun e3 => ⟨_, rfl, _, upd_same, _, rfl, _, hmT e2 e3, eB _ (hbF e1) _⟩) (fun e3 => ⟨_, rfl, _, upd_same, _, rfl, _, hmG e3, eB _ (hbF e1) _⟩)⟩) (fun e2 => ⟨_, rfl, _, upd_same, _, rfl, _, hmF e2, eB _ (hbF e1) _⟩)⟩
    · rintro σ' H' ⟨m, y5, y6, rfl, hm, rfl⟩
      walk_at "vc"
      have eN : (((2 : Int) ^ told).toNat : Int) = 2 ^ told := by omega
      have eW : (2 : Int) ^ told * S = 2 ^ bits := by
        rw [← hS, ← Int.pow_add]
        congr 1
        omega
      rw [cntB_all pS h3 (by rw [eN, eW]; exact h5)]
      refine q p m np fun z => ?_
      rw [hm z]
      have e2 : S = 2 * 2 ^ (bits - told - 1) := by
        rw [← hS, Int.mul_comm, ← Int.pow_succ]
        congr 1
        omega
      exact cntM_all (pow_pos' _) h3 h4 (by rw [eN, ← e2, eW]; exact h5))
end
section
variable {P : Program} {w : World} {K : PySem.W.Frag} {mg : Str → Option Value} {base : Heap}
theorem dok2 {x : Int} (h : x.natAbs < 2 ^ 12) : DOk 1 200 (.list [.int x, .int x]) :=
  (DOk.list (ds := [.int x, .int x]) (h := 0) (n := 13) fun d hd => by
    have : d = .int x := by
      rcases List.mem_cons.mp hd with e | e
      · exact e
      · exact List.mem_singleton.mp e
    rw [this]
    exact DOk.int h (by decide) (by decide)).mono (by decide) (by show 33 ≤ 200; decide)
theorem dp2 {K : PySem.W.Frag} {H : Hp} {p : Addr} {x : Int} (h : H p = some (.lst [.int x, .int x])) : Dp K H (.ref p) (.list [.int x, .int x]) := .lst (sqL_of h) (.cons (.int x) (.cons (.int x) .nil))
theorem blk_lt {s lo hi : Int} (hs : 0 < s) (h0 : 0 ≤ lo) (h1 : lo ≤ hi) (h2 : hi < 512) : (blk s lo hi).natAbs < 2 ^ 12 := by
  have a : (hi + 1) / s ≤ hi + 1 := Int.ediv_le_self _ (by omega)
  have b : 0 ≤ (lo + s - 1) / s := Int.ediv_nonneg (by omega) (by omega)
  unfold blk
  split <;> omega
theorem mid_lt {h lo hi : Int} (hs : 0 < h) (h0 : 0 ≤ lo) (h1 : lo ≤ hi) (h2 : hi < 512) : (mid h lo hi).natAbs < 2 ^ 12 := by
  have a : hi / h ≤ hi := Int.ediv_le_self _ (by omega)
  have b : lo / h ≤ lo := Int.ediv_le_self _ (by omega)
  have c : hi / (2 * h) ≤ hi := Int.ediv_le_self _ (by omega)
  have d : lo / (2 * h) ≤ lo := Int.ediv_le_self _ (by omega)
  have a1 : 0 ≤ hi / h := Int.ediv_nonneg (by omega) (by omega)
  have b1 : 0 ≤ lo / h := Int.ediv_nonneg (by omega) (by omega)
  have c1 : 0 ≤ hi / (2 * h) := Int.ediv_nonneg (by omega) (by omega)
  have d1 : 0 ≤ lo / (2 * h) := Int.ediv_nonneg (by omega) (by omega)
  unfold mid
  omega
def sp_right (m : Nat) : Sp := fun vs H Q _ => ∃ (a : Addr) (bits n : Nat), vs = [.ref a, .int (bits : Int)] ∧ Br a n H ∧ n ≤ 2 ^ 57 ∧ 1 ≤ bits ∧ bits ≤ m ∧ ∀ H', But a H H' → Br a (n + 300) H' → Q (.bl true) H'
theorem O__law_small_right (T : Txt K mg) : OkG P w K mg base CX0 5 "_law_small_right" ["_law_brook_here", "_law_bits"] (sp_right 9) :=
  OkG.mk0 T.f__law_small_right T.g__law_small_right sc__law_small_right (by rintro vs H Q E ⟨_, _, _, rfl, _⟩; rfl) (fun _ _ _ _ _ _ us hl => match us, hl with | [_, _], _ => rfl) (fun f cdv A outer s H vs Q E hr gd h => by
    obtain ⟨a, bits, n, rfl, hB, hn, h1, h2, q⟩ := h
    refine ⟨_, (pss_cons (ps_set (i := 2) sc__law_small_right.nd rfl (.inl rfl) (cal (O__law_stretch T) hr (pa_cons (pv 0) (pa_cons (pv 1) pa_nil))))
    (pss_cons (ps_set (i := 3) sc__law_small_right.nd rfl (.inl rfl) (cal (O__law_dip T) hr (pa_cons (pv 0) (pa_cons (pe_op op_sub pe_int (pv 1)) pa_nil))))
    (pss_cons (ps_set (i := 4) sc__law_small_right.nd rfl (.inl rfl) (pe_tup (pa_cons (pe_op op_shlN (pe_ix (ixT K) (pv 2) pe_int (fun _ _ => rfl)) (pv 3)) (pa_cons (pe_op op_sub (pe_op op_shlN (pe_op op_add (pe_ix (ixT K) (pv 2) pe_int (fun _ _ => rfl)) pe_int) (pv 3)) pe_int) pa_nil))))
    (pss_cons (ps_for PassesOwn.never rfl (pi_range1 (by rfl) T.n_range (pa_cons (pe_op op_add (pv 1) pe_int) pa_nil)) (pg_name (i := 5) sc__law_small_right.nd rfl (.inl rfl)) (pss_cons (ps_set (i := 6) sc__law_small_right.nd rfl (.inl rfl) (cal (O__law_due T) hr (pa_cons (pv 1) (pa_cons (pv 2) (pa_cons (pv 5) pa_nil)))))
    (pss_cons (ps_if (pt_not (pt_val (calG (O__law_same T) hr gd (pa_cons (pe_lst (pa_cons (cal (O_count_blocks T) hr (pa_cons (pv 1) (pa_cons (pv 2) (pa_cons (pv 5) pa_nil)))) (pa_cons (cal (O_count_blocks T) hr (pa_cons (pe_op op_add (pv 1) (pv 3)) (pa_cons (pv 4) (pa_cons (pv 5) pa_nil)))) pa_nil))) (pa_cons (pe_op op_rep (pe_lst (pa_cons (pe_ix (ixL K) (pv 6) pe_int (fun _ _ => rfl)) pa_nil)) pe_int) pa_nil))))) (pss_one (ps_ret pe_bl)) pss_nil)
    (pss_one (ps_if (pt_cmpR op_lt (pv 5) (pv 1) (nomark _)) (pss_cons (ps_set (i := 7) sc__law_small_right.nd rfl (.inl rfl) (pe_lst (pa_cons (cal (O_count_middles T) hr (pa_cons (pv 1) (pa_cons (pv 2) (pa_cons (pv 5) pa_nil)))) (pa_cons (cal (O_count_middles T) hr (pa_cons (pe_op op_add (pv 1) (pv 3)) (pa_cons (pv 4) (pa_cons (pv 5) pa_nil)))) pa_nil))))
    (pss_one (ps_if (pt_not (pt_val (calG (O__law_same T) hr gd (pa_cons (pv 7) (pa_cons (pe_op op_rep (pe_lst (pa_cons (pe_ix (ixL K) (pv 6) pe_int (fun _ _ => rfl)) pa_nil)) pe_int) pa_nil))))) (pss_one (ps_ret pe_bl)) pss_nil))) pss_nil)))))
    (pss_one (ps_ret pe_bl)))))), ?_⟩
    walk_at "vc"
    refine ⟨a, bits, n, rfl, hB, by omega, h1, by omega, fun t lo hi H1 l0 l1 l2 b1 B1 nt ht => ?_⟩
    walk_at "vc"
    refine dip_do (n := n + 100) B1 (by omega) (by omega) (small1000' (by omega)) fun more o2 m0 m1 hB2 => ?_
    walk_at "vc"
    have p57 : (2 : Nat) ^ 57 = 144115188075855872 := by decide
    have p58 : (2 : Nat) ^ 58 = 288230376151711744 := by decide
    have ta : t ≠ a := hB.apart nt
    obtain ⟨mo, rfl⟩ := Int.eq_ofNat_of_zero_le m0
    have hw : (2 : Int) ^ bits * 2 ^ mo = 2 ^ (bits + mo) := (Int.pow_add _ _ _).symm
    have pm := pow_pos' mo
    refine ⟨_, sqT_of (upd_at ta ht), _, rfl, _, rfl, mo, rfl, cshl_of (a := bits) l0 (by omega) (by omega), _, sqT_of (upd_at ta ht), _, rfl, _, rfl, mo, rfl, cshl_of (a := bits + 1) (by omega) (by rw [Int.pow_succ]; omega) (by omega), le_size (by decide), fun pw nw => ⟨by omega, by omega, ?_⟩⟩
    have ht2 := upd_new (o := .tup [.int (lo * 2 ^ mo), .int ((hi + 1) * 2 ^ mo - 1)]) nw (upd_at (o := o2) ta ht)
    have hw2 : upd (upd H1 a o2) pw (.tup [.int (lo * 2 ^ mo), .int ((hi + 1) * 2 ^ mo - 1)]) pw = _ := upd_same
    have B2 := Br.new (o := .tup [.int (lo * 2 ^ mo), .int ((hi + 1) * 2 ^ mo - 1)]) (Br.put (a := a) (H := H1) hB2) nw
    have b2 := But.new (o := .tup [.int (lo * 2 ^ mo), .int ((hi + 1) * 2 ^ mo - 1)]) (But.at (o := o2) b1) nw
    generalize upd (upd H1 a o2) pw (.tup [.int (lo * 2 ^ mo), .int ((hi + 1) * 2 ^ mo - 1)]) = H2 at *
    have hwid : (hi + 1) * 2 ^ mo - 1 < 2 ^ (bits + mo) := by
      rw [← hw]
      have := Int.mul_le_mul_of_nonneg_right (show hi + 1 ≤ 2 ^ bits by omega) (show (0 : Int) ≤ 2 ^ mo by omega)
      omega
    have lwid : lo * 2 ^ mo ≤ (hi + 1) * 2 ^ mo - 1 := by
      have := Int.mul_le_mul_of_nonneg_right (show lo + 1 ≤ hi + 1 by omega) (show (0 : Int) ≤ 2 ^ mo by omega)
      rw [Int.add_mul, Int.one_mul] at this
      omega
    have l0w : 0 ≤ lo * 2 ^ mo := Int.mul_nonneg l0 (by omega)
    have eT : ((bits : Int) + 1).toNat = bits + 1 := by omega
    rw [eT]
    refine loop_r0 (fun i σ' H' => ∃ y5 y6 y7 : Option V, σ' = [some (.ref a), some (.int (bits : Int)), some (.ref t), some (.int (mo : Int)), some (.ref pw), y5, y6, y7] ∧ Same H2 H') ⟨none, none, none, rfl, Same.refl _⟩ ?_ ?_
    · rintro i σ' H' hit ⟨y5, y6, y7, rfl, hs⟩
      walk_at "vc"
      refine ⟨bits, i, t, lo, hi, rfl, h2, by omega, hs _ _ ht2, l0, l1, l2, fun pd m nd hm => ?_⟩
      walk_at "vc"
      have hs2 := Same.new (o := .lst [.int (blk (2 ^ (bits - i)) lo hi), .int m]) hs nd
      have hd2 : upd H' pd (.lst [.int (blk (2 ^ (bits - i)) lo hi), .int m]) pd = _ := upd_same
      generalize upd H' pd (.lst [.int (blk (2 ^ (bits - i)) lo hi), .int m]) = H3 at *
      refine ⟨bits, i, t, lo, hi, rfl, h1, by omega, by omega, hs2 _ _ ht2, l0, l1, l2, ?_⟩
      walk_at "vc"
      refine ⟨bits + mo, i, pw, _, _, rfl, by omega, by omega, by omega, hs2 _ _ hw2, l0w, lwid, hwid, ?_⟩
      have eb : blk (2 ^ (bits + mo - i)) (lo * 2 ^ mo) ((hi + 1) * 2 ^ mo - 1) = blk (2 ^ (bits - i)) lo hi := by
        rw [← blk_wide (pow_pos' (bits - i)) pm, ← Int.pow_add]
        congr 2
        omega
      rw [eb]
      walk_at "vc"
      have h512 : hi < 512 := by
        have := pow_le (a := bits) (b := 9) h2
        omega
      refine ⟨le_size (by decide), fun p3 n3 => ⟨_, sqL_of (upd_new n3 hd2), _, rfl, le_size (by decide), fun p4 n4 => ⟨_, upd_same, by decide, by decide, le_size (by show 2 ≤ 100000; decide), fun p5 n5 => ?_⟩⟩⟩
      refine same_do (dp2 (upd_new n5 (upd_new n4 upd_same))) (dp2 (upd_same.trans rfl)) (dok2 (blk_lt (pow_pos' _) l0 l1 h512)) ?_
      have hs5 := Same.new (o := .lst (List.replicate (Int.toNat 2) [.int (blk (2 ^ (bits - i)) lo hi)]).flatten) (Same.new (o := .lst [.int (blk (2 ^ (bits - i)) lo hi)]) (Same.new (o := .lst [.int (blk (2 ^ (bits - i)) lo hi), .int (blk (2 ^ (bits - i)) lo hi)]) hs2 n3) n4) n5
      have hd5 := upd_new (o := .lst (List.replicate (Int.toNat 2) [.int (blk (2 ^ (bits - i)) lo hi)]).flatten) n5 (upd_new (o := .lst [.int (blk (2 ^ (bits - i)) lo hi)]) n4 (upd_new (o := .lst [.int (blk (2 ^ (bits - i)) lo hi), .int (blk (2 ^ (bits - i)) lo hi)]) n3 hd2))
      generalize upd (upd (upd H3 p3 _) p4 _) p5 _ = H5 at *
      walk_at "vc"
      refine if_d (fun e => ?_) (fun e => hs5)
      have e' : i < bits := by omega
      refine ⟨bits, i, t, lo, hi, rfl, h1, by omega, e', hs5 _ _ ht2, l0, l1, l2, ?_⟩
      walk_at "vc"
      refine ⟨bits + mo, i, pw, _, _, rfl, by omega, by omega, by omega, hs5 _ _ hw2, l0w, lwid, hwid, ?_⟩
      have em : mid (2 ^ (bits + mo - i - 1)) (lo * 2 ^ mo) ((hi + 1) * 2 ^ mo - 1) = mid (2 ^ (bits - i - 1)) lo hi := by
        rw [← mid_wide (pow_pos' (bits - i - 1)) pm, ← Int.pow_add]
        congr 2
        omega
      rw [em]
      walk_at "vc"
      refine ⟨le_size (by decide), fun p6 n6 => ⟨_, sqL_of (upd_new n6 hd5), _, rfl, le_size (by decide), fun p7 n7 => ⟨_, upd_same, by decide, by decide, le_size (by show 2 ≤ 100000; decide), fun p8 n8 => ?_⟩⟩⟩
      rw [hm e'] at n8 ⊢
      refine same_do (dp2 (upd_new n8 (upd_new n7 upd_same))) (dp2 (upd_same.trans rfl)) (dok2 (mid_lt (pow_pos' _) l0 l1 h512)) ?_
      exact ⟨_, rfl, if_f rfl (Same.new (Same.new (Same.new hs5 n6) n7) n8)⟩
    · rintro σ' H' ⟨y5, y6, y7, rfl, hs⟩
      walk_at "vc"
      exact q _ (b2.trans (But.of_same hs)) ((B2.same hs).mono (by omega)))
end
section
variable {P : Program} {w : World} {K : PySem.W.Frag} {mg : Str → Option Value} {base : Heap}
def GI (a : Addr) (bits told : Nat) (H : Hp) (m : Nat) (C : Int → Int → Prop) (σ' : L2.St) (H' : Hp) : Prop := ∃ (lo hi : Int) (y6 y7 y8 y9 y10 y11 y12 : Option V),
  σ' = [some (.ref a), some (.int (bits : Int)), some (.int lo), some (.int hi), some (.int (told : Int)), some (.int (2 ^ (bits - told))), y6, y7, y8, y9, y10, y11, y12] ∧ C lo hi ∧ But a H H' ∧ Br a m H'
theorem GI.mk {a : Addr} {bits told m : Nat} {H H' : Hp} {C : Int → Int → Prop} {lo hi : Int} {y6 y7 y8 y9 y10 y11 y12 : Option V} (c : C lo hi) (b : But a H H') (B : Br a m H') :
    GI a bits told H m C [some (.ref a), some (.int (bits : Int)), some (.int lo), some (.int hi), some (.int (told : Int)), some (.int (2 ^ (bits - told))), y6, y7, y8, y9, y10, y11, y12] H' :=
  ⟨lo, hi, y6, y7, y8, y9, y10, y11, y12, rfl, c, b, B⟩
theorem ne2_do {H : Hp} {p p2 : Addr} {x y u v : Int} {Q : VK} (h1 : H p = some (.lst [.int x, .int y])) (h2 : H p2 = some (.lst [.int u, .int v])) (e1 : x = u) (e2 : y = v) (q : Q (.bl false) H) : rNeD K (.ref p) (.ref p2) H Q := by
  subst e1 e2
  refine ⟨_, _, .lst (sqL_of h1) (.cons (.int x) (.cons (.int y) .nil)), .lst (sqL_of h2) (.cons (.int x) (.cons (.int y) .nil)), rfl, rfl, ?_⟩
  have : PyData.eqv (.list [.int x, .int y]) (.list [.int x, .int y]) = true := by
    simp only [PyData.eqv, PyData.eqvAll, beq_self_eq_true, Bool.and_self]
  rw [this]
  exact q
theorem O__law_great_right (T : Txt K mg) : Ok P w K mg base CX0 5 "_law_great_right" ["_law_brook_here", "_law_bits"] (sp_right 120) :=
  Ok.mk0 T.f__law_great_right T.g__law_great_right sc__law_great_right (by rintro vs H Q E ⟨_, _, _, rfl, _⟩; rfl) (fun _ _ _ _ _ _ us hl => match us, hl with | [_, _], _ => rfl) (fun f cdv A outer s H vs Q E hr h => by
    obtain ⟨a, bits, n, rfl, hB, hn, h1, h2, q⟩ := h
    refine ⟨_, (pss_cons (ps_asg (cal (O__law_stretch T) hr (pa_cons (pv 0) (pa_cons (pv 1) pa_nil))) (pgTup K (n := 2) (pgs_cons (pg_name (i := 2) sc__law_great_right.nd rfl (.inl rfl)) (pgs_cons (pg_name (i := 3) sc__law_great_right.nd rfl (.inl rfl)) pgs_nil))))
    (pss_cons (ps_set (i := 4) sc__law_great_right.nd rfl (.inl rfl) (cal (O__law_dip T) hr (pa_cons (pv 0) (pa_cons (pv 1) pa_nil))))
    (pss_cons (ps_set (i := 5) sc__law_great_right.nd rfl (.inl rfl) (pe_op op_oneShl pe_int (pe_op op_sub (pv 1) (pv 4))))
    (pss_consB (ps_if (pt_cmpR op_eq (cal (O__law_dip T) hr (pa_cons (pv 0) (pa_cons pe_int pa_nil))) pe_int (nomark _)) (pss_cons (ps_set (i := 6) sc__law_great_right.nd rfl (.inl rfl) (pe_ix (ixL K) (pe_lst (pa_cons (pe_un un_neg pe_int) (pa_cons (pe_un un_neg pe_int) (pa_cons pe_int (pa_cons (pe_op op_sub (pe_op op_fdivW (pv 5) pe_int) pe_int) (pa_cons (pe_op op_sub (pe_op op_fdivW (pv 5) pe_int) pe_int) pa_nil)))))) (cal (O__law_dip T) hr (pa_cons (pv 0) (pa_cons pe_int pa_nil))) (fun _ _ => rfl)))
    (pss_one (ps_set (i := 3) sc__law_great_right.nd rfl (.inl rfl) (pe_callB max2 (by rfl) T.n_max (by decide +kernel) (pa_cons (pv 2) (pa_cons (pe_op op_add (pe_op op_mulX (pe_op op_fdivW (pv 3) (pv 5)) (pv 5)) (pv 6)) pa_nil)))))) pss_nil)
    (pss_cons (ps_set (i := 3) sc__law_great_right.nd rfl (.inl rfl) (pe_callB max2 (by rfl) T.n_max (by decide +kernel) (pa_cons (pv 2) (pa_cons (pe_callB min2 (by rfl) T.n_min (by decide +kernel) (pa_cons (pv 3) (pa_cons (pe_op op_sub (pe_op op_oneShl pe_int (pv 1)) pe_int) pa_nil))) pa_nil))))
    (pss_consB (ps_if (pt_cmpR op_eq (cal (O__law_dip T) hr (pa_cons (pv 0) (pa_cons pe_int pa_nil))) pe_int (nomark _)) (pss_cons (ps_set (i := 6) sc__law_great_right.nd rfl (.inl rfl) (pe_ix (ixL K) (pe_lst (pa_cons (pe_un un_neg pe_int) (pa_cons pe_int (pa_cons pe_int (pa_cons (pe_op op_sub (pe_op op_fdivW (pv 5) pe_int) pe_int) (pa_cons (pe_op op_fdivW (pv 5) pe_int) pa_nil)))))) (cal (O__law_dip T) hr (pa_cons (pv 0) (pa_cons pe_int pa_nil))) (fun _ _ => rfl)))
    (pss_one (ps_set (i := 2) sc__law_great_right.nd rfl (.inl rfl) (pe_callB max2 (by rfl) T.n_max (by decide +kernel) (pa_cons pe_int (pa_cons (pe_callB min2 (by rfl) T.n_min (by decide +kernel) (pa_cons (pv 3) (pa_cons (pe_op op_add (pe_op op_mulX (pe_op op_fdivW (pv 2) (pv 5)) (pv 5)) (pv 6)) pa_nil))) pa_nil)))))) pss_nil)
    (pss_consB (ps_if (pt_cmpR op_lt (pv 2) (pv 3) (nomark _)) (pss_cons (ps_set (i := 7) sc__law_great_right.nd rfl (.inl rfl) (pe_op op_sub (cal (O_count_middles T) hr (pa_cons (pv 1) (pa_cons (pe_tup (pa_cons (pv 2) (pa_cons (pv 3) pa_nil))) (pa_cons (pv 4) pa_nil)))) (cal (O_count_middles T) hr (pa_cons (pv 1) (pa_cons (pe_tup (pa_cons (pe_op op_add (pv 2) pe_int) (pa_cons (pv 3) pa_nil))) (pa_cons (pv 4) pa_nil))))))
    (pss_one (ps_if (pt_cmpR op_ne (pv 7) (pe_callTy intB (by rfl) T.n_int (by decide +kernel) (pa_cons (pe_cmpR op_eq (pe_op op_mod (pe_callTy intI (by rfl) T.n_int (by decide +kernel) (pa_cons (pe_op op_add (pv 2) pe_int) pa_nil)) (pv 5)) (pe_op op_fdivW (pv 5) pe_int) (nomark _)) pa_nil)) (nomark _)) (pss_one (ps_ret pe_bl)) pss_nil))) pss_nil)
    (pss_consB (ps_if (pt_cmpR op_lt (pv 3) (pe_op op_sub (pe_op op_oneShl pe_int (pv 1)) pe_int) (nomark _)) (pss_cons (ps_set (i := 8) sc__law_great_right.nd rfl (.inl rfl) (pe_op op_sub (cal (O_count_blocks T) hr (pa_cons (pv 1) (pa_cons (pe_tup (pa_cons (pv 2) (pa_cons (pe_op op_add (pv 3) pe_int) pa_nil))) (pa_cons (pv 4) pa_nil)))) (cal (O_count_blocks T) hr (pa_cons (pv 1) (pa_cons (pe_tup (pa_cons (pv 2) (pa_cons (pv 3) pa_nil))) (pa_cons (pv 4) pa_nil))))))
    (pss_cons (ps_set (i := 9) sc__law_great_right.nd rfl (.inl rfl) (pe_callTy intB (by rfl) T.n_int (by decide +kernel) (pa_cons (pe_and (pe_cmpR op_eq (pe_op op_mod (pe_callTy intI (by rfl) T.n_int (by decide +kernel) (pa_cons (pe_op op_add (pv 3) pe_int) pa_nil)) (pv 5)) pe_int (nomark _)) (pe_one (pe_cmpR op_ge (pe_op op_sub (pe_op op_add (pv 3) pe_int) (pv 5)) (pv 2) (nomark _)))) pa_nil)))
    (pss_cons (ps_set (i := 7) sc__law_great_right.nd rfl (.inl rfl) (pe_op op_sub (cal (O_count_middles T) hr (pa_cons (pv 1) (pa_cons (pe_tup (pa_cons (pv 2) (pa_cons (pe_op op_add (pv 3) pe_int) pa_nil))) (pa_cons (pv 4) pa_nil)))) (cal (O_count_middles T) hr (pa_cons (pv 1) (pa_cons (pe_tup (pa_cons (pv 2) (pa_cons (pv 3) pa_nil))) (pa_cons (pv 4) pa_nil))))))
    (pss_one (ps_if (pt_cmpR (neD K hr) (pe_lst (pa_cons (pv 8) (pa_cons (pv 7) pa_nil))) (pe_lst (pa_cons (pv 9) (pa_cons (pe_callTy intB (by rfl) T.n_int (by decide +kernel) (pa_cons (pe_cmpR op_eq (pe_op op_mod (pe_callTy intI (by rfl) T.n_int (by decide +kernel) (pa_cons (pe_op op_add (pv 3) pe_int) pa_nil)) (pv 5)) (pe_op op_fdivW (pv 5) pe_int) (nomark _)) pa_nil)) pa_nil))) (nomark _)) (pss_one (ps_ret pe_bl)) pss_nil))))) pss_nil)
    (pss_cons (ps_set (i := 10) sc__law_great_right.nd rfl (.inl rfl) (pe_op op_add (pv 2) (pe_op op_mod (pe_callTy intI (by rfl) T.n_int (by decide +kernel) (pa_cons (pe_op op_sub pe_int (pv 2)) pa_nil)) (pv 5))))
    (pss_cons (ps_if (pt_cmpR op_ne (cal (O_count_blocks T) hr (pa_cons (pv 1) (pa_cons (pe_tup (pa_cons (pv 2) (pa_cons (pv 3) pa_nil))) (pa_cons (pv 4) pa_nil)))) (pe_callB max2 (by rfl) T.n_max (by decide +kernel) (pa_cons pe_int (pa_cons (pe_op op_fdivW (pe_op op_sub (pe_op op_add (pv 3) pe_int) (pv 10)) (pv 5)) pa_nil))) (nomark _)) (pss_one (ps_ret pe_bl)) pss_nil)
    (pss_cons (ps_set (i := 11) sc__law_great_right.nd rfl (.inl rfl) (pe_op op_add (pv 2) (cal (O__law_dip T) hr (pa_cons (pv 0) (pa_cons (pe_op op_add (pe_op op_sub (pv 3) (pv 2)) pe_int) pa_nil)))))
    (pss_cons (ps_set (i := 12) sc__law_great_right.nd rfl (.inl rfl) (pe_lst (pa_cons (cal (O_count_middles T) hr (pa_cons (pv 1) (pa_cons (pe_tup (pa_cons (pv 2) (pa_cons (pv 11) pa_nil))) (pa_cons (pv 4) pa_nil)))) (pa_cons (cal (O_count_middles T) hr (pa_cons (pv 1) (pa_cons (pe_tup (pa_cons (pv 11) (pa_cons (pv 3) pa_nil))) (pa_cons (pv 4) pa_nil)))) pa_nil))))
    (pss_cons (ps_if (pt_cmpR op_ne (pe_callB (sumL K) (by rfl) T.n_sum (by decide +kernel) (pa_cons (pv 12) pa_nil)) (cal (O_count_middles T) hr (pa_cons (pv 1) (pa_cons (pe_tup (pa_cons (pv 2) (pa_cons (pv 3) pa_nil))) (pa_cons (pv 4) pa_nil)))) (nomark _)) (pss_one (ps_ret pe_bl)) pss_nil)
    (pss_one (ps_ret (pe_cmpR op_eq (cal (O_count_blocks T) hr (pa_cons (pv 1) (pa_cons (pe_tup (pa_cons (pv 2) (pa_cons (pv 3) pa_nil))) (pa_cons (pv 1) pa_nil)))) (pe_op op_add (pe_op op_sub (pv 3) (pv 2)) pe_int) (nomark _))))))))))))))))), ?_⟩
    walk_at "vc"
    have p57 : (2 : Nat) ^ 57 = 144115188075855872 := by decide
    have p58 : (2 : Nat) ^ 58 = 288230376151711744 := by decide
    have p59 : (2 : Nat) ^ 59 = 576460752303423488 := by decide
    refine ⟨a, bits, n, rfl, hB, by omega, h1, by omega, fun t lo hi H1 l0 l1 l2 b1 B1 nt ht => ?_⟩
    walk_at "vc"
    refine ⟨_, sqT_of ht, rfl, _, _, rfl, _, _, rfl, rfl, ?_⟩
    refine dip_do (n := n + 100) B1 (by omega) (by omega) (small1000' (by omega)) fun told o2 t0 t1 hB2 => ?_
    obtain ⟨told, rfl⟩ := Int.eq_ofNat_of_zero_le t0
    have et : (bits : Int) - told = ((bits - told : Nat) : Int) := by omega
    refine ⟨_, rfl, bits - told, et, by omega, ?_⟩
    have b2 := But.at (o := o2) b1
    have B2 := Br.put (a := a) (H := H1) hB2
    generalize upd H1 a o2 = H2 at *
    have pS := pow_pos' (bits - told)
    have pB := pow_pos' bits
    have pSB : (2 : Int) ^ (bits - told) ≤ 2 ^ bits := pow_le (by omega)
    have pSp : (2 : Int) ^ (bits - told) < 2 ^ (bits + 1) := by rw [Int.pow_succ]; omega
    have c2 : CDivW (2 ^ (bits - told)) 2 := cdiv_of (k := 2) (by decide) (by decide) (by decide)
    have cS : ∀ z : Int, CDivW z (2 ^ (bits - told)) := fun z => cdiv_pow (by omega)
    have cm : ∀ z : Int, 0 ≤ z → z < 2 ^ bits → CMulX (z / 2 ^ (bits - told)) (2 ^ (bits - told)) := fun z z0 z1 =>
      mulx_of (a := bits) (b := bits + 1) (Int.ediv_nonneg z0 (by omega)) (Int.lt_of_le_of_lt (Int.ediv_le_self _ z0) z1) (by omega) pSp (by omega)
    have pH := pow_pos' (bits - told - 1)
    have hS2 : (2 : Int) ^ (bits - told) = 2 * 2 ^ (bits - told - 1) := by
      rw [Int.mul_comm, ← Int.pow_succ]
      congr 1
      omega
    have half : (2 : Int) ^ (bits - told) / 2 = 2 ^ (bits - told - 1) := by rw [hS2, Int.mul_ediv_cancel_left _ (by decide)]
    have no : ∀ {p : Prop} [Decidable p] {A B : Prop}, p → B → if (!decide p) = true then A else B := fun h b => if_f (by rw [decide_eq_true h]; rfl) b
    have at5 : ∀ (x0 x1 x2 x3 x4 c : Int), 0 ≤ c → c < 5 → ∃ v : Int, atI [V.int x0, V.int x1, V.int x2, V.int x3, V.int x4] c = some (V.int v) := fun x0 x1 x2 x3 x4 c c0 c1 => by
      rcases (show c = 0 ∨ c = 1 ∨ c = 2 ∨ c = 3 ∨ c = 4 by omega) with e | e | e | e | e <;> rw [e] <;> exact ⟨_, rfl⟩
    refine seq_by (GI a bits told H (n + 160) fun l h => l = lo ∧ l ≤ h) ?_ ?_
    · rintro σ' H3 ⟨lo', hi', y6, y7, y8, y9, y10, y11, y12, rfl, ⟨e, hle⟩, b3, B3⟩
      subst e
      walk_at "vc"
      refine ⟨bits, rfl, by omega, ?_⟩
      have hh : ∀ x : Int, x = (if (if 2 ^ bits - 2 < hi' then 2 ^ bits - 2 else hi') > lo' then if 2 ^ bits - 2 < hi' then 2 ^ bits - 2 else hi' else lo') → lo' ≤ x ∧ x < 2 ^ bits := fun x e => by
        rw [e]
        split <;> split <;> omega
      generalize (if (if 2 ^ bits - 2 < hi' then 2 ^ bits - 2 else hi') > lo' then if 2 ^ bits - 2 < hi' then 2 ^ bits - 2 else hi' else lo') = h3 at *
      obtain ⟨k1, k2⟩ := hh h3 rfl
      refine seq_by (GI a bits told H (n + 200) fun l h => 0 ≤ l ∧ l ≤ h ∧ h < 2 ^ bits) ?_ ?_
      · rintro σ' H4 ⟨lo, hi, y6, y7, y8, y9, y10, y11, y12, rfl, ⟨l0, l1, l2⟩, b4, B4⟩
        refine seq_by (GI a bits told H (n + 200) fun l h => l = lo ∧ h = hi) ?_ ?_
        · rintro σ' H5 ⟨lo', hi', y6, y7, y8, y9, y10, y11, y12, rfl, ⟨rfl, rfl⟩, b5, B5⟩
          refine seq_by (GI a bits told H (n + 200) fun l h => l = lo' ∧ h = hi') ?_ ?_
          · rintro σ' H6 ⟨lo, hi, y6, y7, y8, y9, y10, y11, y12, rfl, ⟨rfl, rfl⟩, b6, B6⟩
            walk_at "vc"
            refine ⟨pS, le_size (by decide), fun p np => ⟨bits, told, p, lo, hi, rfl, h1, by omega, by omega, upd_same, l0, l1, l2, ?_⟩⟩
            walk_at "vc"
            refine ⟨cS _, no (blk_first pS).symm ?_⟩
            refine dip_do (n := n + 200) (B6.new np) (by omega) (by omega) (lt1000 (k := 121) (by have := pow_le (a := bits + 1) (b := 121) (by omega); rw [Int.pow_succ] at this; omega) (by decide)) fun d o7 d0 d1 hB7 => ?_
            refine ⟨_, rfl, le_size (by decide), fun p2 np2 => ⟨bits, told, p2, lo, lo + d, rfl, h1, by omega, by omega, upd_same, l0, by omega, by omega, ?_⟩⟩
            refine ⟨le_size (by decide), fun p3 np3 => ⟨bits, told, p3, lo + d, hi, rfl, h1, by omega, by omega, upd_same, by omega, by omega, l2, ?_⟩⟩
            refine ⟨le_size (by decide), fun p4 np4 => ⟨p4, [_, _], rfl, sqL_of upd_same, ?_⟩⟩
            refine ⟨le_size (by decide), fun p5 np5 => ⟨bits, told, p5, lo, hi, rfl, h1, by omega, by omega, upd_same, l0, l1, l2, ?_⟩⟩
            walk_at "vc"
            refine no ?_ ⟨le_size (by decide), fun p6 np6 => ⟨bits, bits, p6, lo, hi, rfl, h1, by omega, by omega, upd_same, l0, l1, l2, ?_⟩⟩
            · rw [← mid_cut (h := 2 ^ (bits - told - 1)) (lo := lo) (sp := lo + d) (hi := hi)]
              show _ + (_ + 0) = _
              rw [Int.add_zero]
            · walk_at "vc"
              rw [Nat.sub_self, Int.pow_zero, blk_one l1, decide_eq_true rfl]
              exact q _ (((((((b6.new np).at).new np2).new np3).new np4).new np5).new np6) (((((((Br.put hB7).new np2).new np3).new np4).new np5).new np6).mono (by omega))
          · intro k hk
            walk_at "vc"
            refine ⟨bits, rfl, by omega, if_d (fun e => ⟨le_size (by decide), fun p np => ⟨bits, told, p, lo', hi' + 1, rfl, h1, by omega, by omega, upd_same, l0, by omega, by omega, ?_⟩⟩) (fun e => hk _ _ (GI.mk ⟨rfl, rfl⟩ b5 B5))⟩
            walk_at "vc"
            refine ⟨le_size (by decide), fun p2 np2 => ⟨bits, told, p2, lo', hi', rfl, h1, by omega, by omega, upd_same, l0, l1, l2, ?_⟩⟩
            walk_at "vc"
            have eb := blk_right (lo := lo') (hi := hi') pS
            have em := mid_right (lo := lo') (hi := hi') pH
            refine ⟨pS, if_d (fun e1 => ?_) (fun e1 => ?_)⟩
            all_goals
              refine ⟨le_size (by decide), fun p3 np3 => ⟨bits, told, p3, lo', hi' + 1, rfl, h1, by omega, by omega, upd_same, l0, by omega, by omega, ?_⟩⟩
              walk_at "vc"
              refine ⟨le_size (by decide), fun p4 np4 => ⟨bits, told, p4, lo', hi', rfl, h1, by omega, by omega, upd_same, l0, l1, l2, ?_⟩⟩
              walk_at "vc"
              refine ⟨le_size (by decide), fun p5 np5 => ⟨pS, c2, le_size (by decide), fun p6 np6 => ?_⟩⟩
              refine ne2_do (upd_new np6 upd_same) upd_same ?_ ?_ ⟨_, rfl, if_f rfl (hk _ _ (GI.mk ⟨rfl, rfl⟩ ((((((b5.new np).new np2).new np3).new np4).new np5).new np6) ((((((B5.new np).new np2).new np3).new np4).new np5).new np6)))⟩
              · rw [eb]
                simp only [e1, true_and, false_and, if_false, decide_eq_true_eq]
              · rw [em, half, hS2]
                simp only [decide_eq_true_eq]
        · intro k hk
          walk_at "vc"
          refine if_d (fun e => ⟨le_size (by decide), fun p np => ⟨bits, told, p, lo, hi, rfl, h1, by omega, by omega, upd_same, l0, l1, l2, ?_⟩⟩) (fun e => hk _ _ (GI.mk ⟨rfl, rfl⟩ b4 B4))
          walk_at "vc"
          refine ⟨le_size (by decide), fun p2 np2 => ⟨bits, told, p2, lo + 1, hi, rfl, h1, by omega, by omega, upd_same, by omega, by omega, l2, ?_⟩⟩
          walk_at "vc"
          refine ⟨pS, c2, no ?_ (hk _ _ (GI.mk ⟨rfl, rfl⟩ ((b4.new np).new np2) ((B4.new np).new np2)))⟩
          simp only [decide_eq_true_eq]
          rw [mid_left pH, half, hS2]
      · intro k hk
        walk_at "vc"
        refine dip_do (n := n + 160) B3 (by omega) (by omega) (small1000' (by omega)) fun d o3 d0 d1 hB3 => ?_
        walk_at "vc"
        refine if_d (fun e => ⟨c2, c2, le_size (by decide), fun p np => ?_⟩) (fun e => hk _ _ (GI.mk ⟨l0, k1, k2⟩ b3.at ((Br.put hB3).mono (by omega))))
        have B4 := Br.put (a := a) (H := H3) hB3
        refine dip_do (n := n + 180) (B4.new np) (by omega) (by decide) (small1000' (by decide)) fun c o4 c0 c1 hB4 => ?_
        obtain ⟨v, hv⟩ := at5 (-1) 0 1 (2 ^ (bits - told) / 2 - 1) (2 ^ (bits - told) / 2) c c0 c1
        refine ⟨_, _, rfl, sqL_of (upd_at (B4.apart np) upd_same), _, hv, cS _, cm _ (by omega) (by omega), v, rfl, hk _ _ (GI.mk ⟨?_, ?_, k2⟩ (b3.at.new np).at ((Br.put hB4).mono (by omega)))⟩ <;> split <;> (try split) <;> omega
    · intro k hk
      walk_at "vc"
      refine dip_do (n := n + 120) B2 (by omega) (by omega) (small1000' (by omega)) fun d o3 d0 d1 hB3 => ?_
      walk_at "vc"
      refine if_d (fun e => ⟨c2, c2, le_size (by decide), fun p np => ?_⟩) (fun e => hk _ _ (GI.mk ⟨rfl, l1⟩ b2.at ((Br.put hB3).mono (by omega))))
      have B3 := Br.put (a := a) (H := H2) hB3
      refine dip_do (n := n + 140) (B3.new np) (by omega) (by decide) (small1000' (by decide)) fun c o4 c0 c1 hB4 => ?_
      obtain ⟨v, hv⟩ := at5 (-2) (-1) 0 (2 ^ (bits - told) / 2 - 1) (2 ^ (bits - told) / 2 - 2) c c0 c1
      refine ⟨_, _, rfl, sqL_of (upd_at (B3.apart np) upd_same), _, hv, cS _, cm _ (by omega) l2, v, rfl, hk _ _ (GI.mk ⟨rfl, ?_⟩ (b2.at.new np).at ((Br.put hB4).mono (by omega)))⟩
      split <;> omega)
end
section
variable {P : Program} {w : World} {K : PySem.W.Frag} {mg : Str → Option Value} {base : Heap}
theorem eq2_do {H : Hp} {p p2 : Addr} {x y u v : Int} {Q : VK} (h1 : H p = some (.lst [.int x, .int y])) (h2 : H p2 = some (.lst [.int u, .int v])) (e1 : x = u) (e2 : y = v) (q : Q (.bl true) H) : rEqD K (.ref p) (.ref p2) H Q := by
  subst e1 e2
  refine ⟨_, _, .lst (sqL_of h1) (.cons (.int x) (.cons (.int y) .nil)), .lst (sqL_of h2) (.cons (.int x) (.cons (.int y) .nil)), rfl, rfl, ?_⟩
  have : PyData.eqv (.list [.int x, .int y]) (.list [.int x, .int y]) = true := by
    simp only [PyData.eqv, PyData.eqvAll, beq_self_eq_true, Bool.and_self]
  rw [this]
  exact q
def sp_law (K : PySem.W.Frag) : Sp := fun vs H Q _ => ∃ (a : Addr) (ns : List Int), vs = [.ref a] ∧ SqL K H a (ns.map V.int) ∧ ns.length ≤ 63 ∧ ∀ H', Q (.bl true) H'
theorem fn_law (T : Txt K mg) {fd : FuncData} (F : FunD K "law" "law" (defArgs s_law) (defBody s_law) (defScope s_law) [] [] (He.ga K "law") fd) : GFn P w K mg base CX0 9 (He.ga K "law") fd ["_law_script"] (sp_law K) :=
  gfn_of0 F sc_law (by rintro vs H Q E ⟨_, _, rfl, _⟩; rfl) (fun cdv A outer s H vs Q E hr gd h => by
    obtain ⟨a, ns, rfl, hS, hl, q⟩ := h
    refine ⟨_, (pss_cons (ps_for PassesOwn.never rfl (pi_range1 (by rfl) T.n_range (pa_cons (pe_callB max2 (by rfl) T.n_max (by decide +kernel) (pa_cons pe_int (pa_cons (pe_callB min2 (by rfl) T.n_min (by decide +kernel) (pa_cons pe_int (pa_cons (pe_callB (lenU K) (by rfl) T.n_len (by decide +kernel) (pa_cons (pv 0) pa_nil)) pa_nil))) pa_nil))) pa_nil)) (pg_name (i := 1) sc_law.nd rfl (.inl rfl)) (pss_cons (ps_set (i := 2) sc_law.nd rfl (.inl rfl) (cal (O__law_brook T) hr (pa_cons (pv 0) (pa_cons (pv 1) pa_nil))))
    (pss_one (ps_for PassesOwn.never rfl (pi_range1 (by rfl) T.n_range (pa_cons pe_int pa_nil)) (pg_name (i := 3) sc_law.nd rfl (.inl rfl)) (pss_cons (ps_if (pt_not (pt_val (calG (O__law_small_right T) hr gd (pa_cons (pv 2) (pa_cons (pe_op op_add pe_int (cal (O__law_dip T) hr (pa_cons (pv 2) (pa_cons (pe_ifExp (pt_cmpR op_eq (pe_op op_add (pv 1) (pv 3)) pe_int (nomark _)) pe_int pe_int) pa_nil)))) pa_nil))))) (pss_one (ps_ret pe_bl)) pss_nil)
    (pss_one (ps_if (pt_not (pt_val (cal (O__law_great_right T) hr (pa_cons (pv 2) (pa_cons (pe_op op_add pe_int (cal (O__law_dip T) hr (pa_cons (pv 2) (pa_cons pe_int pa_nil)))) pa_nil))))) (pss_one (ps_ret pe_bl)) pss_nil)))))))
    (pss_cons (ps_if (pt_cmpR op_ne (cal (O_count_blocks T) hr (pa_cons pe_int (pa_cons (pe_tup (pa_cons pe_int (pa_cons (pe_op op_sub (pe_op op_oneShl pe_int pe_int) pe_int) pa_nil))) (pa_cons pe_int pa_nil)))) pe_int (nomark _)) (pss_one (ps_ret pe_bl)) pss_nil)
    (pss_one (ps_ret (pe_cmpR (eqD K hr) (pe_lst (pa_cons (cal (O_count_blocks T) hr (pa_cons pe_int (pa_cons (pe_tup (pa_cons pe_int (pa_cons pe_int pa_nil))) (pa_cons pe_int pa_nil)))) (pa_cons (cal (O_count_middles T) hr (pa_cons pe_int (pa_cons (pe_tup (pa_cons pe_int (pa_cons pe_int pa_nil))) (pa_cons pe_int pa_nil)))) pa_nil))) (pe_lst (pa_cons pe_int (pa_cons pe_int pa_nil))) (nomark _)))))), ?_⟩
    walk_at "vc"
    refine ⟨_, .inl ⟨_, hS, rfl⟩, by split <;> split <;> omega, by split <;> split <;> omega, ?_⟩
    have hN : (if (if ((ns.map V.int).length : Int) < 6 then ((ns.map V.int).length : Int) else 6) > 1 then if ((ns.map V.int).length : Int) < 6 then ((ns.map V.int).length : Int) else 6 else 1).toNat ≤ 6 := by split <;> split <;> omega
    generalize (if (if ((ns.map V.int).length : Int) < 6 then ((ns.map V.int).length : Int) else 6) > 1 then if ((ns.map V.int).length : Int) < 6 then ((ns.map V.int).length : Int) else 6 else 1).toNat = N at *
    refine loop_r0 (fun i σ' H' => ∃ y1 y2 y3 : Option V, σ' = [some (.ref a), y1, y2, y3] ∧ SqL K H' a (ns.map V.int)) ⟨none, none, none, rfl, hS⟩ ?_ ?_
    · rintro i σ' H1 hi ⟨y1, y2, y3, rfl, hS1⟩
      walk_at "vc"
      refine ⟨a, ns, i, rfl, hS1, hl, by omega, by omega, fun p o np hB => ?_⟩
      walk_at "vc"
      refine ⟨by decide, by decide, ?_⟩
      refine loop_r0 (fun j σ' H' => ∃ y3 : Option V, σ' = [some (.ref a), some (.int i), some (.ref p), y3] ∧ But p H1 H' ∧ Br p (640 * j) H') ⟨y3, rfl, But.refl.at, Br.put hB⟩ ?_ ?_
      · rintro j σ' H2 hj ⟨y3, rfl, b2, B2⟩
        have hj4 : j < 4 := hj
        walk_at "vc"
        have p57 : (2 : Nat) ^ 57 = 144115188075855872 := by decide
        have p59 : (2 : Nat) ^ 59 = 576460752303423488 := by decide
        refine if_d (fun _ => ?_) (fun _ => ?_)
        all_goals
          refine dip_do (n := 640 * j) B2 (by omega) (by decide) (small1000' (by decide)) fun d o1 d0 d1 hB1 => ⟨d, rfl, p, (1 + d).toNat, 640 * j + 20, by rw [show (((1 + d).toNat : Nat) : Int) = 1 + d by omega], Br.put hB1, by omega, by omega, by omega, fun H3 b3 B3 => ⟨_, rfl, if_f rfl ?_⟩⟩
          refine dip_do (n := 640 * j + 20 + 300) B3 (by omega) (by decide) (small1000' (by decide)) fun e o2 e0 e1 hB2 => ⟨e, rfl, p, (1 + e).toNat, 640 * j + 20 + 300 + 20, by rw [show (((1 + e).toNat : Nat) : Int) = 1 + e by omega], Br.put hB2, by omega, by omega, by omega, fun H4 b4 B4 => ⟨_, rfl, if_f rfl ⟨?_, B4.mono (by omega)⟩⟩⟩
          exact ((b2.at.trans b3).at).trans b4
      · rintro σ' H2 ⟨y3, rfl, b2, B2⟩
        walk_at "vc"
        exact b2.keepL np hS1
    · rintro σ' H1 ⟨y1, y2, y3, rfl, hS1⟩
      walk_at "vc"
      refine ⟨120, rfl, by decide, le_size (by decide), fun p np => ⟨120, 0, p, 0, 2 ^ 120 - 1, rfl, by decide, by decide, by decide, upd_same, by decide, by decide +kernel, by decide +kernel, ?_⟩⟩
      rw [show blk (2 ^ (120 - 0)) 0 (2 ^ 120 - 1) = 1 by decide +kernel]
      refine ⟨rfl, if_f rfl ⟨le_size (by decide), fun p2 np2 => ⟨2, 1, p2, 1, 3, rfl, by decide, by decide, by decide, upd_same, by decide, by decide, by decide, ?_⟩⟩⟩
      refine ⟨le_size (by decide), fun p3 np3 => ⟨2, 1, p3, 1, 3, rfl, by decide, by decide, by decide, upd_same, by decide, by decide, by decide, ?_⟩⟩
      refine ⟨le_size (by decide), fun p4 np4 => ⟨le_size (by decide), fun p5 np5 => ?_⟩⟩
      exact eq2_do (upd_new np5 upd_same) upd_same (by decide) (by decide) (q _))
end
/-! ## the end -/
def fnl : List He.DefD := [⟨("blocks_in", none), "blocks_in", "blocks_in", defArgs s_blocks_in, defBody s_blocks_in, defScope s_blocks_in, [], []⟩, ⟨("middles_in", none), "middles_in", "middles_in", defArgs s_middles_in, defBody s_middles_in, defScope s_middles_in, [], []⟩, ⟨("is_int", none), "is_int", "is_int", defArgs s_is_int, defBody s_is_int, defScope s_is_int, [], []⟩, ⟨("require_number", none), "require_number", "require_number", defArgs s_require_number, defBody s_require_number, defScope s_require_number, [], []⟩, ⟨("is_stretch", none), "is_stretch", "is_stretch", defArgs s_is_stretch, defBody s_is_stretch, defScope s_is_stretch, [], []⟩, ⟨("require_stretch", none), "require_stretch", "require_stretch", defArgs s_require_stretch, defBody s_require_stretch, defScope s_require_stretch, [], []⟩, ⟨("count_blocks", none), "count_blocks", "count_blocks", defArgs s_count_blocks, defBody s_count_blocks, defScope s_count_blocks, [], []⟩, ⟨("count_middles", none), "count_middles", "count_middles", defArgs s_count_middles, defBody s_count_middles, defScope s_count_middles, [], []⟩, ⟨("_law_brook", none), "_law_brook", "_law_brook", defArgs s__law_brook, defBody s__law_brook, defScope s__law_brook, [], []⟩, ⟨("_law_dip", none), "_law_dip", "_law_dip", defArgs s__law_dip, defBody s__law_dip, defScope s__law_dip, [], []⟩, ⟨("_law_stretch", none), "_law_stretch", "_law_stretch", defArgs s__law_stretch, defBody s__law_stretch, defScope s__law_stretch, [], []⟩, ⟨("_law_same", none), "_law_same", "_law_same", defArgs s__law_same, defBody s__law_same, defScope s__law_same, [], []⟩, ⟨("_law_due", none), "_law_due", "_law_due", defArgs s__law_due, defBody s__law_due, defScope s__law_due, [], []⟩, ⟨("_law_small_right", none), "_law_small_right", "_law_small_right", defArgs s__law_small_right, defBody s__law_small_right, defScope s__law_small_right, [], []⟩, ⟨("_law_great_right", none), "_law_great_right", "_law_great_right", defArgs s__law_great_right, defBody s__law_great_right, defScope s__law_great_right, [], []⟩, ⟨("law", none), "law", "law", defArgs s_law, defBody s_law, defScope s_law, [], []⟩]
def fal : List He.Fa := [.free "bool", .free "int", .free "isinstance", .free "len", .free "max", .free "min", .free "range", .free "repr", .free "sum", .free "tuple", .int "MOST_BITS" 120, .glo "blocks_in", .glo "middles_in", .glo "is_int", .glo "require_number", .glo "is_stretch", .glo "require_stretch", .glo "count_blocks", .glo "count_middles", .glo "_law_brook", .glo "_law_dip", .glo "_law_stretch", .glo "_law_same", .glo "_law_due", .glo "_law_small_right", .glo "_law_great_right", .glo "law"]
abbrev Rw : PySem.W.OpenRow := PySem.W.OpenLaw.row PySem.Challenge.rw_wovenkeys_k09_blocks_and_middles
abbrev hk : PySem.W.Hook := He.hookD 5 fal fnl
def ob (s : PySem.W.SharedT) : He.AlD := He.obsDG 5 fal fnl (HandSHeadRun.getT s)
theorem ob_eq (s : PySem.W.SharedT) : ob s = hk.obs s.abs := He.obsDG_eq (HandSHeadRun.getT_eq s)
def nm0 : List Str := ["blocks_in", "middles_in", "WeaveError", "InvalidStretch", "InvalidNumber", "MOST_BITS", "is_int", "require_number", "is_stretch", "require_stretch", "count_blocks", "count_middles", "_law_brook", "_law_dip", "_law_stretch", "_law_same", "_law_due", "_law_small_right", "_law_great_right"]
def nms : List Str := nm0
theorem run (w : World) : HandSHeadRun.RunEq Rw (PySem.W.view Rw.prog [24]) hk ob 3000 nms w := by
  intro os
  kernel_rfl
theorem txt {K : PySem.W.Frag} {h : Heap} {mg : Str → Option Value} (X : K.In h) (G : h.Ns mainGlobals mg) (c : He.SaysD fal fnl K) : Txt K mg where
  n_bool := He.free_ok X G (c.fact 0)
  n_int := He.free_ok X G (c.fact 1)
  n_isinstance := He.free_ok X G (c.fact 2)
  n_len := He.free_ok X G (c.fact 3)
  n_max := He.free_ok X G (c.fact 4)
  n_min := He.free_ok X G (c.fact 5)
  n_range := He.free_ok X G (c.fact 6)
  n_repr := He.free_ok X G (c.fact 7)
  n_sum := He.free_ok X G (c.fact 8)
  n_tuple := He.free_ok X G (c.fact 9)
  c_MOST_BITS := He.int_ok X G (c.fact 10)
  g_blocks_in := He.glo_ok X G (c.fact 11)
  g_middles_in := He.glo_ok X G (c.fact 12)
  g_is_int := He.glo_ok X G (c.fact 13)
  g_require_number := He.glo_ok X G (c.fact 14)
  g_is_stretch := He.glo_ok X G (c.fact 15)
  g_require_stretch := He.glo_ok X G (c.fact 16)
  g_count_blocks := He.glo_ok X G (c.fact 17)
  g_count_middles := He.glo_ok X G (c.fact 18)
  g__law_brook := He.glo_ok X G (c.fact 19)
  g__law_dip := He.glo_ok X G (c.fact 20)
  g__law_stretch := He.glo_ok X G (c.fact 21)
  g__law_same := He.glo_ok X G (c.fact 22)
  g__law_due := He.glo_ok X G (c.fact 23)
  g__law_small_right := He.glo_ok X G (c.fact 24)
  g__law_great_right := He.glo_ok X G (c.fact 25)
  g_law := He.glo_ok X G (c.fact 26)
  f_blocks_in := c.def_ 0
  f_middles_in := c.def_ 1
  f_is_int := c.def_ 2
  f_require_number := c.def_ 3
  f_is_stretch := c.def_ 4
  f_require_stretch := c.def_ 5
  f_count_blocks := c.def_ 6
  f_count_middles := c.def_ 7
  f__law_brook := c.def_ 8
  f__law_dip := c.def_ 9
  f__law_stretch := c.def_ 10
  f__law_same := c.def_ 11
  f__law_due := c.def_ 12
  f__law_small_right := c.def_ 13
  f__law_great_right := c.def_ 14
  f_law := c.def_ 15
theorem law_at {P : Program} {w : World} {K : PySem.W.Frag} {h : Heap} {mg : Str → Option Value} {f : Addr} (X : K.In h) (G : h.Ns mainGlobals mg) (hfa : mg ("law" : Str) = some (.ref f)) (c : He.SaysD fal fnl K) :
    ∃ fd : FuncData, (∀ (s : Shared) (v : Value), BindsTo s fd ⟨[v], []⟩ [("_law_script", v)]) ∧ ∀ base : Heap, K.In base → base.Ns mainGlobals mg → GFn P w K mg base CX0 9 f fd ["_law_script"] (sp_law K) := by
  have T := txt X G c
  obtain ⟨fd, F⟩ := T.f_law
  have e := hfa.symm.trans T.g_law
  cases e
  have b := FunD.bindsA (ps := ["_law_script"]) F fun _ _ _ _ _ _ us hl => match us, hl with | [_], _ => rfl
  exact ⟨fd, fun s v => b s [v] rfl, fun base _ _ => fn_law T F⟩
end K09
open PySem PySem.W PySem.Calls PyProof.Rows
set_option maxHeartbeats 0 in
theorem PySem.Challenge.cw_wovenkeys_k09_blocks_and_middles_holds : PySem.Challenge.rw_wovenkeys_k09_blocks_and_middles.Holds := by
  w_on; o_law
  refine HandSHeadRun.head_any (r := OpenLaw.row PySem.Challenge.rw_wovenkeys_k09_blocks_and_middles) (q := view (OpenLaw.row PySem.Challenge.rw_wovenkeys_k09_blocks_and_middles).prog [24]) (H := K09.hk) (ob := K09.ob) (M := 3000) (loose := K09.nms) (d := HandSHeadRun.topDef (OpenLaw.row PySem.Challenge.rw_wovenkeys_k09_blocks_and_middles).prog 24) (kwd := []) K09.ob_eq
    (by kernel_rfl) (fun s => by kernel_rfl) K09.run (by kernel_rfl) (by kernel_rfl) (by kernel_rfl) (by rfl) (by first | assumption | decide +kernel) (by decide +kernel) ⟨rfl, rfl, rfl, rfl, rfl, by decide +kernel⟩ ?hw ?hc
  case hw => w_witness2
  case hc =>
    refine WK.walkG (l := PySem.Challenge.rw_wovenkeys_k09_blocks_and_middles) (n := 63) (k := 9) (x := "_law_script") rfl (by decide) (by kernel_rfl) ⟨rfl, by decide, by decide⟩ ?F
    intro w mg fa h Y G hmg0
    obtain ⟨K, KX, c⟩ := Y
    have hmg : mg ("law" : PySem.Str) = some (.ref fa) := by
      have e : (HandSHeadRun.topDef (OpenLaw.row PySem.Challenge.rw_wovenkeys_k09_blocks_and_middles).prog 24).name = ("law" : PySem.Str) := by kernel_rfl
      rw [← e]
      exact hmg0
    obtain ⟨fd, hb, hF⟩ := K09.law_at (P := (PySem.Challenge.rw_wovenkeys_k09_blocks_and_middles).prog) (w := w) KX G hmg c
    exact ⟨K, fd, K09.sp_law K, KX, hb, fun H a ns hl _ hS => ⟨a, ns, rfl, hS, hl, fun _ => rfl⟩, hF⟩
