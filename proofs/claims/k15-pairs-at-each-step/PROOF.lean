import PyProof.Rows.All
import Wide.All
import OpenK.AllK
import Wide.FinOn
import KE.KStateDown
import KE.GoesEnum
import Lean
import HandS.Base
import HandS.Call
import HandS.List
import HandS.Comp
import HandS.Ends
import HandS.Dict
import HandS.Iter
import HandS.Text
import HandS.More
import HandS.Exc
import HandS.ExcOwn
import HandS.TryOnly
import HandS.TryMany
import HandS.IsInst
import HandS.Words
import HandS.WordsList
import HandS.WordsExc
import HandS.Wide
import HandS.WideBits
import HandS.Defaults
import HandS.Head0
import HandS.Head1
import HandS.Head2
import HandS.HeadEnd
import HandS.HeadHook1
import HandS.HeadHook2
import HandS.RaiseMore
import HandS.TupAny
import HandS.Style
import HandS.Property
import HandS.Conv
import HandS.Walk
import HandS.Replace
import HandS.SortInts
import HandS.TupMul
import HandS.Zip
import PySem.Challenge.RW_wovenkeys_k15_pairs_at_each_step
set_option Elab.async false
set_option linter.all false
set_option maxRecDepth 100000
set_option maxHeartbeats 4000000
/-! ## Part 1: rules in short form, over the hand layer -/
namespace WK
open PySem PySem.Spec PyProof.Rows L2

/-! ### a def of the text that keeps a promise, found by its name -/
structure Ok (P : Program) (w : World) (K : PySem.W.Frag) (mg : Str → Option Value) (base : Heap) (C : CXT) (k : Nat) (x : Str) (ps : List Str) (sp : Sp) : Prop where
  ex : ∃ fd, FnOk P w K mg base C k (He.ga K x) fd ps sp ∧ Binds K fd ps []
  kp : PySem.W.keepIn K (.ref (He.ga K x)) = true
  at_ : mg x = some (.ref (He.ga K x))
def tCal (sp : Sp) (E : XK) (t : TA) : TE := fun σ H Q => t σ H fun vs H1 => sp vs H1 Q E
section
variable {X : Cx} {C : CXT} {k j : Nat} {ps : List Str} {sp : Sp} {E : XK} {x : Str} {p pos : Pos} {e : Expr} {es : List Expr} {t : TA}
theorem tCal_eq : tCall sp [] E t = tCal sp E t := by
  funext σ H Q
  show (t σ H fun vs H1 => sp (vs ++ []) H1 Q E) = t σ H fun vs H1 => sp vs H1 Q E
  congr 1
  funext vs H1
  rw [List.append_nil]
theorem calX (O : Ok X.prog X.w X.K X.mg X.base C k x ps sp) (hr : Room j X.A) (hx : Passes C X E) (ha : PA X (e :: es) t) (hj : k ≤ j := by first | decide | omega) (hg : Gl X x := by rfl) (hdb : (x == ("__debug__" : Str)) = false := by decide)
    (he : starEach (e :: es) X.env = (false, eval e X.env) :: starEach es X.env := by rfl) (hpl : (backTo pos (starEach es X.env)).any (·.1) = false := by rfl) : PE X (.Call (.Name x p) (e :: es) [] pos) (tCal sp E t) := by
  obtain ⟨fd, F, B⟩ := O.ex
  rw [← tCal_eq]
  exact pe_call F (hr.mono hj) hg O.at_ O.kp B .nil hx ha hdb he hpl
theorem cal (O : Ok X.prog X.w X.K X.mg X.base CX0 k x ps sp) (hr : Room j X.A) (ha : PA X (e :: es) t) (hj : k ≤ j := by first | decide | omega) (hg : Gl X x := by rfl) (hdb : (x == ("__debug__" : Str)) = false := by decide)
    (he : starEach (e :: es) X.env = (false, eval e X.env) :: starEach es X.env := by rfl) (hpl : (backTo pos (starEach es X.env)).any (·.1) = false := by rfl) : PE X (.Call (.Name x p) (e :: es) [] pos) (tCal sp E0 t) :=
  calX O hr pass0 ha hj hg hdb he hpl
theorem cal0 (O : Ok X.prog X.w X.K X.mg X.base CX0 k x ps sp) (hr : Room j X.A) (hj : k ≤ j := by first | decide | omega) (hg : Gl X x := by rfl) (hdb : (x == ("__debug__" : Str)) = false := by decide) : PE X (.Call (.Name x p) [] [] pos) (tCal sp E0 tNil) := by
  obtain ⟨fd, F, B⟩ := O.ex
  rw [← tCal_eq]
  exact pe_call0 F (hr.mono hj) hg O.at_ O.kp B .nil pass0 hdb
end
/-- a def keeps a promise: by its body -/
theorem Ok.mk' {P : Program} {w : World} {K : PySem.W.Frag} {mg : Str → Option Value} {base : Heap} {C : CXT} {k : Nat} {x : Str} {N ps : List Str} {st : Stmt} {sp : Sp}
    (F : ∃ fd, FunD K x x (defArgs st) (defBody st) (defScope st) [] [] (He.ga K x) fd) (g : mg x = some (.ref (He.ga K x))) (S : FnScope N ps (defScope st)) (len : ∀ vs H Q E, sp vs H Q E → vs.length = ps.length)
    (hb : ∀ (kV doc pm : Value) (an : Option Addr) (cdv ct : Value) (us : List Value), us.length = ps.length → bindArgs (PySem.W.fnOf x x (defArgs st) (defBody st) (defScope st) .none kV doc pm an cdv ct) ⟨us, []⟩ = pure (ps.zip us))
    (hbody : ∀ (f : Addr) (cdv : Value) (A : Around) (outer : List Env) (s : Shared) (H : Hp) (vs : List V) (Q : VK) (E : XK), Room k (A.deeper (envOfC x (defScope st) s.heap.objs.size f cdv)) → sp vs H Q E →
      ∃ t, PSs (cxOf C P w K mg base N x (defScope st) f cdv A outer s H E) (defBody st) t ∧ t { nx := fun _ H' => Q .non H', rt := Q } (start N vs) H) : Ok P w K mg base C (k + 1) x ps sp := by
  obtain ⟨fd, F⟩ := F
  exact ⟨⟨fd, F.ok S len fun cdv A outer s H vs Q E => hbody _ cdv A outer s H vs Q E, F.bindsN hb⟩, F.kp, g⟩
/-- nothing leaves it -/
theorem Ok.mk0 {P : Program} {w : World} {K : PySem.W.Frag} {mg : Str → Option Value} {base : Heap} {k : Nat} {x : Str} {N ps : List Str} {st : Stmt} {sp : Sp}
    (F : ∃ fd, FunD K x x (defArgs st) (defBody st) (defScope st) [] [] (He.ga K x) fd) (g : mg x = some (.ref (He.ga K x))) (S : FnScope N ps (defScope st)) (len : ∀ vs H Q E, sp vs H Q E → vs.length = ps.length)
    (hb : ∀ (kV doc pm : Value) (an : Option Addr) (cdv ct : Value) (us : List Value), us.length = ps.length → bindArgs (PySem.W.fnOf x x (defArgs st) (defBody st) (defScope st) .none kV doc pm an cdv ct) ⟨us, []⟩ = pure (ps.zip us))
    (hbody : ∀ (f : Addr) (cdv : Value) (A : Around) (outer : List Env) (s : Shared) (H : Hp) (vs : List V) (Q : VK) (E : XK), Room k (A.deeper (envOfC x (defScope st) s.heap.objs.size f cdv)) → sp vs H Q E →
      ∃ t, PSs (cxOf CX0 P w K mg base N x (defScope st) f cdv A outer s H E).nox (defBody st) t ∧ t { nx := fun _ H' => Q .non H', rt := Q } (start N vs) H) : Ok P w K mg base CX0 (k + 1) x ps sp :=
  Ok.mk' F g S len hb fun f cdv A outer s H vs Q E hr h => by
    obtain ⟨t, h1, h2⟩ := hbody f cdv A outer s H vs Q E hr h
    exact ⟨t, h1.nox, h2⟩

/-! ### rules with the written part told apart -/
section
variable {X : Cx}
theorem ixL (K : PySem.W.Frag) (h : X.K = K := by rfl) : IxR X (rIxL K) := by
  subst h
  exact ix_list
theorem ixT (K : PySem.W.Frag) (h : X.K = K := by rfl) : IxR X (rIxT K) := by
  subst h
  exact ix_tup
theorem piL (K : PySem.W.Frag) {tg l : Expr} {tl : TE} (hl : PE X l tl) (h : X.K = K := by rfl) : PI X tg l (iList K tl) := by
  subst h
  exact pi_list hl
theorem piT (K : PySem.W.Frag) {tg l : Expr} {tl : TE} (hl : PE X l tl) (h : X.K = K := by rfl) : PI X tg l (iTup K tl) := by
  subst h
  exact pi_tup hl
def rLenU (K : PySem.W.Frag) : List V → Hp → VK → Prop := fun xs H Q => ∃ x n, xs = [x] ∧ LenV K x H n ∧ Q (.int n) H
theorem lenU (K : PySem.W.Frag) (h : X.K = K := by rfl) : CallR X (.builtin "len") (rLenU K) := by
  subst h
  exact call_len
theorem sumL (K : PySem.W.Frag) (hc : X.calm = true := by rfl) (h : X.K = K := by rfl) : CallR X (.builtin "sum") (rSum K) := by
  subst h
  exact cr_sum hc
theorem maxL (K : PySem.W.Frag) (hc : X.calm = true := by rfl) (h : X.K = K := by rfl) : CallR X (.builtin "max") (rMax K) := by
  subst h
  exact cr_max hc
theorem allL (K : PySem.W.Frag) (hc : X.calm = true := by rfl) (h : X.K = K := by rfl) : CallR X (.builtin "all") (rAll K) := by
  subst h
  exact cr_all hc
theorem anyL (K : PySem.W.Frag) (hc : X.calm = true := by rfl) (h : X.K = K := by rfl) : CallR X (.builtin "any") (rAny K) := by
  subst h
  exact cr_any hc
theorem max2 (hc : X.calm = true := by rfl) : CallR X (.builtin "max") (fun xs H Q => ∃ i j, xs = [.int i, .int j] ∧ Q (.int (if j > i then j else i)) H) := call_max2 hc
theorem min2 (hc : X.calm = true := by rfl) : CallR X (.builtin "min") (fun xs H Q => ∃ i j, xs = [.int i, .int j] ∧ Q (.int (if j < i then j else i)) H) := call_min2 hc
theorem eqD (K : PySem.W.Frag) {j : Nat} (hr : Room j X.A) (h : X.K = K := by rfl) : OpR X (compareOp .Eq) (rEqD K) := by
  subst h
  exact op_eqD hr.units
theorem neD (K : PySem.W.Frag) {j : Nat} (hr : Room j X.A) (h : X.K = K := by rfl) : OpR X (compareOp .NotEq) (rNeD K) := by
  subst h
  exact op_neD hr.units
theorem isi (K : PySem.W.Frag) (h : X.K = K := by rfl) : CallR X (.builtin "isinstance") (rIsi K) := by
  subst h
  exact call_isi
theorem isiT (K : PySem.W.Frag) (h : X.K = K := by rfl) : CallR X (.builtin "isinstance") (rIsiT K) := by
  subst h
  exact call_isiT
/-- the class of a built-in kind, as a value -/
theorem tyInt (hm : X.mg "int" = none) (hg : Gl X "int" := by rfl) {pos : Pos} : PE X (.Name "int" pos) (tC (.ty "int")) := pe_bltn (u := .type "int") hg hm (by decide +kernel) rfl
end
/-! ### ints of any size -/
def CPowW (i j : Int) : Prop := 0 ≤ j ∧ (Builtin.Int.intBits i : Int) * j ≤ 2 ^ 27
section
variable {X : Cx}
theorem op_powW : OpR X (binaryOp .Pow) (rI CPowW fun i j => .int (i ^ j.toNat)) := opI fun _ _ _ _ _ _ _ hc q => pow_int hc.1 hc.2 q
/-- a written power -/
theorem pe_cpow {i j v : Int} {a b : Nat} {p q pos : Pos} (hv : i ^ j.toNat = v) (hj : 0 ≤ j ∧ j ≤ 1000000 := by decide) (hi : i.natAbs < 2 ^ 64 := by decide) : PE X (.BinOp (.Constant (.int i) a p) .Pow (.Constant (.int j) b q) pos) (tC (.int v)) := by
  subst hv
  have h := pe_op (X := X) (pos := pos) op_pow (pe_int (i := i) (j := a) (pos := p)) (pe_int (i := j) (j := b) (pos := q))
  exact ⟨fun pins s σ H Q I hq => h.run pins s σ H Q I ⟨i, j, rfl, rfl, ⟨hj.1, hj.2, hi⟩, hq⟩⟩
end
theorem powW_ok {i : Int} {n : Nat} {k : Nat} (h : i.natAbs < 2 ^ n) (hk : n * k ≤ 134217728) : CPowW i (k : Int) := by
  have b := PyProof.Rows.intBits_le h
  refine ⟨Int.natCast_nonneg _, ?_⟩
  have e : (2 : Int) ^ 27 = 134217728 := by decide
  rw [e]
  have h1 : Builtin.Int.intBits i * k ≤ n * k := Nat.mul_le_mul_right _ b
  have h2 : ((Builtin.Int.intBits i : Nat) : Int) * (k : Int) = ((Builtin.Int.intBits i * k : Nat) : Int) := (Int.natCast_mul _ _).symm
  rw [h2]
  omega
end WK
/-! ### the module's names, own errors -/
namespace WK
open PySem PySem.Spec PyProof.Rows L2
section
variable {X : Cx}
theorem pe_gint {x : Str} {i : Int} {pos : Pos} (h : ∃ t, X.mg x = some (.int i t)) (hg : Gl X x := by rfl) (hd : (x == ("__debug__" : Str)) = false := by decide) : PE X (.Name x pos) (tC (.int i)) := by
  obtain ⟨t, e⟩ := h
  exact pe_glob hg e ⟨t, rfl⟩ hd
theorem pe_gstr {x z : Str} {pos : Pos} (h : ∃ t, X.mg x = some (.str z t)) (hg : Gl X x := by rfl) (hd : (x == ("__debug__" : Str)) = false := by decide) : PE X (.Name x pos) (tC (.str z)) := by
  obtain ⟨t, e⟩ := h
  exact pe_glob hg e ⟨t, rfl⟩ hd
end
/-- an own error class over ValueError, without an own __init__ -/
structure Xc (K : PySem.W.Frag) (mg : Str → Option Value) (x : Str) : Prop where
  ex : PySem.W.excIn K (He.ga K x) He.veBase "ValueError.__new__" = true
  g : mg x = some (.ref (He.ga K x))
  kp : PySem.W.keepIn K (.ref (He.ga K x)) = true
  sub : PySem.W.subIn K (.ref (He.ga K x)) (.type "BaseException") = some true
  ty : PySem.W.typeIn K (.ref (He.ga K x)) = some (.type "type")
theorem Xc.of {K : PySem.W.Frag} {h : Heap} {mg : Str → Option Value} (X : K.In h) (G : h.Ns mainGlobals mg) {x : Str} (a : (He.Fa.glo x).ok K = true) (b : (He.Fa.exc x).ok K = true) : Xc K mg x := by
  obtain ⟨b1, b2, b3, b4⟩ := He.exc_ok b
  exact ⟨b1, He.glo_ok X G a, b2, b3, b4⟩
def tEx (C : Value) : L2.St → Hp → XK → Prop := fun _ H Q => Q C none H
theorem Xc.pmk {X : Cx} {K : PySem.W.Frag} {x m : Str} {j : Nat} {p p2 pos : Pos} (T : Xc K X.mg x) (hg : Gl X x) (hK : X.K = K := by rfl) (hdb : (x == ("__debug__" : Str)) = false := by decide) :
    PMk X (.Call (.Name x p) [.Constant (.str m) j p2] [] pos) (tEx (.ref (He.ga K x))) := by
  subst hK
  exact pmk_own PySem.F.excBase_ValueError T.ex T.g T.kp (raises_own T.sub T.ty) hg hdb
/-- a test that is true leaves what it leaves, a false one goes on -/
theorem if_t {c : Bool} {A B : Prop} (h : c = true) (a : A) : if c = true then A else B := by
  rw [if_pos h]
  exact a
theorem if_f {c : Bool} {A B : Prop} (h : c = false) (b : B) : if c = true then A else B := by
  rw [h, if_neg Bool.false_ne_true]
  exact b
theorem if_c {c : Bool} {A B : Prop} (a : c = true → A) (b : c = false → B) : if c = true then A else B := by
  cases c with
  | true => exact if_t rfl (a rfl)
  | false => exact if_f rfl (b rfl)
/-- by a proposition -/
theorem if_d {p : Prop} [Decidable p] {A B : Prop} (a : p → A) (b : ¬ p → B) : if decide p = true then A else B := by
  by_cases h : p
  · exact if_t (decide_eq_true h) (a h)
  · exact if_f (decide_eq_false h) (b h)
theorem if_nd {p : Prop} [Decidable p] {A B : Prop} (a : ¬ p → A) (b : p → B) : if (!decide p) = true then A else B := by
  by_cases h : p
  · exact if_f (by rw [decide_eq_true h]; rfl) (b h)
  · exact if_t (by rw [decide_eq_false h]; rfl) (a h)
end WK

namespace WK
open PySem PySem.Spec PyProof.Rows L2
/-! ### int() of an int, of a truth -/
def rIntI : List V → Hp → VK → Prop := fun xs H Q => ∃ i, xs = [.int i] ∧ Q (.int i) H
def rIntB : List V → Hp → VK → Prop := fun xs H Q => ∃ k, xs = [.bl k] ∧ Q (.int (if k = true then 1 else 0)) H
section
variable {X : Cx}
theorem intI : CallR X (.type "int") rIntI := fun pins s σ H xs us Q I r h => call_int1 pins s σ H xs us Q I r (.inl h)
theorem intB : CallR X (.type "int") rIntB := fun pins s σ H xs us Q I r h => call_int1 pins s σ H xs us Q I r (.inr h)
end
end WK
namespace WK
open PySem PySem.Spec PyProof.Rows L2
/-! ### isinstance -/
theorem isi_of {K : PySem.W.Frag} {H : Hp} {x : V} {t : Value} {n : String} {b : Bool} {R : Bool → Prop} (ht : TyX K H x t) (hk : PySem.W.kitOne K t (.type n) = some b) (r : R b) :
    ∃ t u, ClsV (.ty n) u ∧ TyX K H x t ∧ ∃ b, PySem.W.kitOne K t u = some b ∧ R b := ⟨t, _, .ty n, ht, b, hk, r⟩
theorem isi_own {K : PySem.W.Frag} {H : Hp} {x : V} {t : Value} {C : Addr} {b : Bool} {R : Bool → Prop} (ht : TyX K H x t) (hk : PySem.W.kitOne K t (.ref C) = some b) (r : R b) :
    ∃ t u, ClsV (.ref C) u ∧ TyX K H x t ∧ ∃ b, PySem.W.kitOne K t u = some b ∧ R b := ⟨t, _, .own C, ht, b, hk, r⟩
theorem isi_tt {K : PySem.W.Frag} {H : Hp} {t : Addr} {xs : List V} {R : Bool → Prop} (ht : H t = some (.tup xs)) (r : R true) :
    ∃ t', ∃ u, ClsV (.ty "tuple") u ∧ TyX K H (.ref t) t' ∧ ∃ b, PySem.W.kitOne K t' u = some b ∧ R b := isi_of (.base (.tup ht)) rfl r
theorem isi_ll {K : PySem.W.Frag} {H : Hp} {t : Addr} {xs : List V} {R : Bool → Prop} (ht : H t = some (.lst xs)) (r : R true) :
    ∃ t', ∃ u, ClsV (.ty "list") u ∧ TyX K H (.ref t) t' ∧ ∃ b, PySem.W.kitOne K t' u = some b ∧ R b := isi_of (.base (.lst ht)) rfl r
section
variable {K : PySem.W.Frag} {H : Hp} {n : String} {R : Bool → Prop}
theorem isi_int {i : Int} : (∃ t u, ClsV (.ty n) u ∧ TyX K H (.int i) t ∧ ∃ b, PySem.W.kitOne K t u = some b ∧ R b) = ∃ b, PySem.W.kitOne K (.type "int") (.type n) = some b ∧ R b := by
  apply propext
  constructor
  · rintro ⟨t, u, c, h, b, k, r⟩
    cases c
    cases h with | base h => cases h; exact ⟨b, k, r⟩
  · rintro ⟨b, k, r⟩
    exact isi_of (.base (.int i)) k r
theorem isi_str {i : Str} : (∃ t u, ClsV (.ty n) u ∧ TyX K H (.str i) t ∧ ∃ b, PySem.W.kitOne K t u = some b ∧ R b) = ∃ b, PySem.W.kitOne K (.type "str") (.type n) = some b ∧ R b := by
  apply propext
  constructor
  · rintro ⟨t, u, c, h, b, k, r⟩
    cases c
    cases h with | base h => cases h; exact ⟨b, k, r⟩
  · rintro ⟨b, k, r⟩
    exact isi_of (.base (.str i)) k r
theorem isi_bl {i : Bool} : (∃ t u, ClsV (.ty n) u ∧ TyX K H (.bl i) t ∧ ∃ b, PySem.W.kitOne K t u = some b ∧ R b) = ∃ b, PySem.W.kitOne K (.type "bool") (.type n) = some b ∧ R b := by
  apply propext
  constructor
  · rintro ⟨t, u, c, h, b, k, r⟩
    cases c
    cases h with | base h => cases h; exact ⟨b, k, r⟩
  · rintro ⟨b, k, r⟩
    exact isi_of (.base (.bl i)) k r
theorem isi_non : (∃ t u, ClsV (.ty n) u ∧ TyX K H .non t ∧ ∃ b, PySem.W.kitOne K t u = some b ∧ R b) = ∃ b, PySem.W.kitOne K (.type "NoneType") (.type n) = some b ∧ R b := by
  apply propext
  constructor
  · rintro ⟨t, u, c, h, b, k, r⟩
    cases c
    cases h with | base h => cases h; exact ⟨b, k, r⟩
  · rintro ⟨b, k, r⟩
    exact isi_of (.base .non) k r
theorem kit_ii : PySem.W.kitOne K (.type "int") (.type "int") = some true := rfl
theorem kit_ss : PySem.W.kitOne K (.type "str") (.type "str") = some true := rfl
theorem kit_bb : PySem.W.kitOne K (.type "bool") (.type "bool") = some true := rfl
theorem kit_ib : PySem.W.kitOne K (.type "int") (.type "bool") = some false := by kernel_rfl
theorem kit_is : PySem.W.kitOne K (.type "int") (.type "str") = some false := by kernel_rfl
theorem kit_it : PySem.W.kitOne K (.type "int") (.type "tuple") = some false := by kernel_rfl
theorem kit_il : PySem.W.kitOne K (.type "int") (.type "list") = some false := by kernel_rfl
theorem kit_si : PySem.W.kitOne K (.type "str") (.type "int") = some false := by kernel_rfl
theorem kit_sb : PySem.W.kitOne K (.type "str") (.type "bool") = some false := by kernel_rfl
theorem kit_st : PySem.W.kitOne K (.type "str") (.type "tuple") = some false := by kernel_rfl
theorem kit_sl : PySem.W.kitOne K (.type "str") (.type "list") = some false := by kernel_rfl
theorem kit_bi : PySem.W.kitOne K (.type "bool") (.type "int") = some true := by kernel_rfl
theorem kit_bs : PySem.W.kitOne K (.type "bool") (.type "str") = some false := by kernel_rfl
theorem kit_bt : PySem.W.kitOne K (.type "bool") (.type "tuple") = some false := by kernel_rfl
theorem kit_ni : PySem.W.kitOne K (.type "NoneType") (.type "int") = some false := by kernel_rfl
theorem kit_ns : PySem.W.kitOne K (.type "NoneType") (.type "str") = some false := by kernel_rfl
theorem kit_nt : PySem.W.kitOne K (.type "NoneType") (.type "tuple") = some false := by kernel_rfl
theorem kit_tt : PySem.W.kitOne K (.type "tuple") (.type "tuple") = some true := rfl
theorem kit_tl : PySem.W.kitOne K (.type "tuple") (.type "list") = some false := by kernel_rfl
theorem kit_ti : PySem.W.kitOne K (.type "tuple") (.type "int") = some false := by kernel_rfl
theorem kit_ts : PySem.W.kitOne K (.type "tuple") (.type "str") = some false := by kernel_rfl
theorem kit_ll : PySem.W.kitOne K (.type "list") (.type "list") = some true := rfl
theorem kit_lt : PySem.W.kitOne K (.type "list") (.type "tuple") = some false := by kernel_rfl
theorem kit_li : PySem.W.kitOne K (.type "list") (.type "int") = some false := by kernel_rfl
theorem kit_ls : PySem.W.kitOne K (.type "list") (.type "str") = some false := by kernel_rfl
end
theorem pgTup {X : Cx} {pos : Pos} (K : PySem.W.Frag) {es : List Expr} {k : Nat} {t : TGs} {n : Nat} (h : PGs X es t) (hc : X.calm = true := by rfl) (hK : X.K = K := by rfl)
    (hn : (assignEach es X.env).length = n := by rfl) (hst : (assignEach es X.env).findIdx? (·.1) = none := by rfl) : PG X (.Tuple es k pos) (gTup K n t) := by
  subst hK
  exact pg_tup hc h hn hst
theorem ite_t {c : Bool} {A T : Prop} (t : T) (h : c = true → T → A) : if c = true then A else T := by
  cases c with
  | true => exact h rfl t
  | false => exact t
end WK
/-! ## Part 2: defs that ask for the text of data (repr): nothing that guards a repr runs around them -/
namespace WK
open PySem PySem.Spec PyProof.Rows L2
structure GFn (P : Program) (w : World) (K : PySem.W.Frag) (mg : Str → Option Value) (base : Heap) (C : CXT) (k : Nat) (f : Addr) (fd : FuncData) (ps : List Str) (sp : Sp) : Prop where
  len : ∀ vs H Q E, sp vs H Q E → vs.length = ps.length
  go : ∀ (A : Around) (outer : List Env) (s : Shared) (H : Hp) (args : Args) (us : List Value) (vs : List V) (Q : VK) (E : XK), Room k A → A.guards = some [] → Env0 P w K mg base A outer s H →
    BindsTo s fd args (ps.zip us) → Vals vs us → sp vs H Q E → codeAny (model P w) A (.call (.ref f) args) (CR C outer P w H s Q E) s
theorem GFn.of {P : Program} {w : World} {K : PySem.W.Frag} {mg : Str → Option Value} {base : Heap} {C : CXT} {k : Nat} {f : Addr} {fd : FuncData} {ps : List Str} {sp : Sp} (F : FnOk P w K mg base C k f fd ps sp) : GFn P w K mg base C k f fd ps sp :=
  ⟨F.len, fun A outer s H args us vs Q E hr _ he hb hv hs => F.run A outer s H args us vs Q E hr he hb hv hs⟩
/-- the body rule -/
theorem gfn_of {P : Program} {w : World} {K : PySem.W.Frag} {mg : Str → Option Value} {base : Heap} {C : CXT} {k : Nat} {f : Addr} {x q : Str} {pa : Arguments} {bd : List Stmt} {sc : Scope} {fd : FuncData} {N ps : List Str} {sp : Sp}
    (F : FunD K x q pa bd sc [] [] f fd) (S : FnScope N ps sc) (len : ∀ vs H Q E, sp vs H Q E → vs.length = ps.length)
    (body : ∀ (cd : Value) (A : Around) (outer : List Env) (s : Shared) (H : Hp) (vs : List V) (Q : VK) (E : XK), Room k (A.deeper (envOfC q sc s.heap.objs.size f cd)) → (A.deeper (envOfC q sc s.heap.objs.size f cd)).guards = some [] → sp vs H Q E →
      ∃ t, PSs (cxOf C P w K mg base N q sc f cd A outer s H E) bd t ∧ t { nx := fun _ H' => Q .non H', rt := Q } (start N vs) H) : GFn P w K mg base C (k + 1) f fd ps sp := by
  obtain ⟨oc, od, dV, kV, doc, pm, an, cd, ct, osl, rfl, lk, hcd, _, _⟩ := F.ex
  refine ⟨len, fun A outer s H args us vs Q E room gd env0 bnd rel want => ?_⟩
  have len2 := len _ _ _ _ want
  have inK : K.In s.heap := env0.mod.kin.keeps fun b o z => (env0.bs b o z).1
  have nolim : s.heap.NoLimit := env0.mod.nolimit.keeps fun b o z => (env0.bs b o z).1
  have kinds : ∀ y ∈ ps.zip us, sc.names.lookup y.1 = some .local ∨ (sc.names.lookup y.1 = some .cell ∧ ((cellsFrom (s.heap.objs.size + 1) sc.names []).lookup y.1).isSome = true) := by
    rintro ⟨n, v⟩ hy
    cases S.par n (List.of_mem_zip hy).1 with
    | inl z => exact .inl z
    | inr z => exact .inr ⟨z, PySem.W.cellsFrom_some _ _ _ (.inl z)⟩
  refine codeAny_call_function room.depth (inK _ _ lk) rfl S.co S.gen rfl (PySem.W.codeRec_of inK hcd) (bnd _ _ _ _ ?_)
  refine wpAny_newFunctionEnv_cells S.kind kinds fun env' ee s1 x1 => ?_
  subst ee
  refine ⟨nolim.keeps x1.toInCall.keep, codeAny_func ?_⟩
  obtain ⟨t, ht, hq⟩ := body cd A outer s H vs Q E (room.deeper _) gd want
  have II : Inv (cxOf C P w K mg base N q sc f cd A outer s H E) [] (start N vs) H s1 := inv_start S room.hd env0 len2 rel x1
  refine wpAny_mono (ht.run [] s1 (start N vs) H _ II hq) (fun fl s2 hs => ?_) fun e s2 hs => hs
  cases fl with
  | ret u =>
    obtain ⟨v, σ2, H2, J, rv, hv⟩ := hs
    exact ⟨v, H2, J.os, J.bare, J.base, J.hok, rv, hv⟩
  | next =>
    obtain ⟨σ2, H2, J, hv⟩ := hs
    exact ⟨V.non, H2, J.os, J.bare, J.base, J.hok, rfl, hv⟩
  | brk =>
    obtain ⟨_, _, _, z⟩ := hs
    exact z.elim
  | cont =>
    obtain ⟨_, _, _, z⟩ := hs
    exact z.elim
theorem gfn_of0 {P : Program} {w : World} {K : PySem.W.Frag} {mg : Str → Option Value} {base : Heap} {k : Nat} {f : Addr} {x q : Str} {pa : Arguments} {bd : List Stmt} {sc : Scope} {fd : FuncData} {N ps : List Str} {sp : Sp}
    (F : FunD K x q pa bd sc [] [] f fd) (S : FnScope N ps sc) (len : ∀ vs H Q E, sp vs H Q E → vs.length = ps.length)
    (body : ∀ (cd : Value) (A : Around) (outer : List Env) (s : Shared) (H : Hp) (vs : List V) (Q : VK) (E : XK), Room k (A.deeper (envOfC q sc s.heap.objs.size f cd)) → (A.deeper (envOfC q sc s.heap.objs.size f cd)).guards = some [] → sp vs H Q E →
      ∃ t, PSs (cxOf CX0 P w K mg base N q sc f cd A outer s H E).nox bd t ∧ t { nx := fun _ H' => Q .non H', rt := Q } (start N vs) H) : GFn P w K mg base CX0 (k + 1) f fd ps sp :=
  gfn_of F S len fun cd A outer s H vs Q E hr gd h => by
    obtain ⟨t, h1, h2⟩ := body cd A outer s H vs Q E hr gd h
    exact ⟨t, h1.nox, h2⟩
structure OkG (P : Program) (w : World) (K : PySem.W.Frag) (mg : Str → Option Value) (base : Heap) (C : CXT) (k : Nat) (x : Str) (ps : List Str) (sp : Sp) : Prop where
  ex : ∃ fd, GFn P w K mg base C k (He.ga K x) fd ps sp ∧ Binds K fd ps []
  kp : PySem.W.keepIn K (.ref (He.ga K x)) = true
  at_ : mg x = some (.ref (He.ga K x))
theorem Ok.g {P : Program} {w : World} {K : PySem.W.Frag} {mg : Str → Option Value} {base : Heap} {C : CXT} {k : Nat} {x : Str} {ps : List Str} {sp : Sp} (O : Ok P w K mg base C k x ps sp) : OkG P w K mg base C k x ps sp := by
  obtain ⟨fd, F, B⟩ := O.ex
  exact ⟨⟨fd, .of F, B⟩, O.kp, O.at_⟩
theorem OkG.mk' {P : Program} {w : World} {K : PySem.W.Frag} {mg : Str → Option Value} {base : Heap} {C : CXT} {k : Nat} {x : Str} {N ps : List Str} {st : Stmt} {sp : Sp}
    (F : ∃ fd, FunD K x x (defArgs st) (defBody st) (defScope st) [] [] (He.ga K x) fd) (g : mg x = some (.ref (He.ga K x))) (S : FnScope N ps (defScope st)) (len : ∀ vs H Q E, sp vs H Q E → vs.length = ps.length)
    (hb : ∀ (kV doc pm : Value) (an : Option Addr) (cdv ct : Value) (us : List Value), us.length = ps.length → bindArgs (PySem.W.fnOf x x (defArgs st) (defBody st) (defScope st) .none kV doc pm an cdv ct) ⟨us, []⟩ = pure (ps.zip us))
    (hbody : ∀ (f : Addr) (cdv : Value) (A : Around) (outer : List Env) (s : Shared) (H : Hp) (vs : List V) (Q : VK) (E : XK), Room k (A.deeper (envOfC x (defScope st) s.heap.objs.size f cdv)) →
      (A.deeper (envOfC x (defScope st) s.heap.objs.size f cdv)).guards = some [] → sp vs H Q E →
      ∃ t, PSs (cxOf C P w K mg base N x (defScope st) f cdv A outer s H E) (defBody st) t ∧ t { nx := fun _ H' => Q .non H', rt := Q } (start N vs) H) : OkG P w K mg base C (k + 1) x ps sp := by
  obtain ⟨fd, F⟩ := F
  exact ⟨⟨fd, gfn_of F S len fun cdv A outer s H vs Q E => hbody _ cdv A outer s H vs Q E, F.bindsN hb⟩, F.kp, g⟩
theorem OkG.mk0 {P : Program} {w : World} {K : PySem.W.Frag} {mg : Str → Option Value} {base : Heap} {k : Nat} {x : Str} {N ps : List Str} {st : Stmt} {sp : Sp}
    (F : ∃ fd, FunD K x x (defArgs st) (defBody st) (defScope st) [] [] (He.ga K x) fd) (g : mg x = some (.ref (He.ga K x))) (S : FnScope N ps (defScope st)) (len : ∀ vs H Q E, sp vs H Q E → vs.length = ps.length)
    (hb : ∀ (kV doc pm : Value) (an : Option Addr) (cdv ct : Value) (us : List Value), us.length = ps.length → bindArgs (PySem.W.fnOf x x (defArgs st) (defBody st) (defScope st) .none kV doc pm an cdv ct) ⟨us, []⟩ = pure (ps.zip us))
    (hbody : ∀ (f : Addr) (cdv : Value) (A : Around) (outer : List Env) (s : Shared) (H : Hp) (vs : List V) (Q : VK) (E : XK), Room k (A.deeper (envOfC x (defScope st) s.heap.objs.size f cdv)) →
      (A.deeper (envOfC x (defScope st) s.heap.objs.size f cdv)).guards = some [] → sp vs H Q E →
      ∃ t, PSs (cxOf CX0 P w K mg base N x (defScope st) f cdv A outer s H E).nox (defBody st) t ∧ t { nx := fun _ H' => Q .non H', rt := Q } (start N vs) H) : OkG P w K mg base CX0 (k + 1) x ps sp :=
  OkG.mk' F g S len hb fun f cdv A outer s H vs Q E hr hgd h => by
    obtain ⟨t, h1, h2⟩ := hbody f cdv A outer s H vs Q E hr hgd h
    exact ⟨t, h1.nox, h2⟩
section
variable {X : Cx} {C : CXT} {k j : Nat} {ps : List Str} {sp : Sp} {E : XK} {x : Str} {p pos : Pos} {e : Expr} {es : List Expr} {t : TA}
theorem run_g {f : Addr} {fd : FuncData} {pins : List (Addr × Obj)} {σ : L2.St} {H : Hp} {s : Shared} {Q : VK} {us : List Value} {vs : List V} (F : GFn X.prog X.w X.K X.mg X.base C k f fd ps sp) (hr : Room k X.A) (gd : X.A.guards = some []) (hb : Binds X.K fd ps []) (hx : Passes C X E)
    (I : Inv X pins σ H s) (r : Vals vs us) (h : sp vs H Q E) : wpAny (model X.prog X.w) X.A (call (.ref f) us) (EP X pins σ Q) X.xe s := by
  have n1 : us.length = ps.length := by
    rw [← r.length]
    exact F.len _ _ _ _ h
  have b1 := hb s us I.kIn (by rw [List.append_nil]; exact n1)
  rw [List.append_nil] at b1
  refine wpAny_call (codeAny_mono (F.go X.A X.stack s H ⟨us, []⟩ us vs Q E hr gd I.env0 b1 r h) fun res s2 hq => ?_)
  match res, hq with
  | .error er, hq => exact hx pins σ H s er s2 I hq
  | .ok (.ret u), hq => exact I.after hq
  | .ok .next, hq => exact False.elim hq
  | .ok .brk, hq => exact False.elim hq
  | .ok .cont, hq => exact False.elim hq
theorem calGX (O : OkG X.prog X.w X.K X.mg X.base C k x ps sp) (hr : Room j X.A) (gd : X.A.guards = some []) (hx : Passes C X E) (ha : PA X (e :: es) t) (hj : k ≤ j := by first | decide | omega) (hg : Gl X x := by rfl) (hdb : (x == ("__debug__" : Str)) = false := by decide)
    (he : starEach (e :: es) X.env = (false, eval e X.env) :: starEach es X.env := by rfl) (hpl : (backTo pos (starEach es X.env)).any (·.1) = false := by rfl) : PE X (.Call (.Name x p) (e :: es) [] pos) (tCal sp E t) := by
  obtain ⟨fd, F, B⟩ := O.ex
  refine ⟨fun pins s σ H Q I h => ?_⟩
  refine wpAny_Call_Name_kw (ld_glob I hg O.at_ ?_ hdb)
  refine PySem.W.callWith_K (h₀ := X.base) I.ok.mod.kin O.kp (thn (ha.run pos pins s σ H _ I h) fun us s1 ⟨vs, H1, I1, r, hq⟩ => ⟨I1.kIn, ?_⟩) he hpl
  exact run_g F (hr.mono hj) gd B hx I1 r hq
theorem calG (O : OkG X.prog X.w X.K X.mg X.base CX0 k x ps sp) (hr : Room j X.A) (gd : X.A.guards = some []) (ha : PA X (e :: es) t) (hj : k ≤ j := by first | decide | omega) (hg : Gl X x := by rfl) (hdb : (x == ("__debug__" : Str)) = false := by decide)
    (he : starEach (e :: es) X.env = (false, eval e X.env) :: starEach es X.env := by rfl) (hpl : (backTo pos (starEach es X.env)).any (·.1) = false := by rfl) : PE X (.Call (.Name x p) (e :: es) [] pos) (tCal sp E0 t) :=
  calGX O hr gd pass0 ha hj hg hdb he hpl
/-- repr(x), data at any depth but dicts -/
def rRepr (K : PySem.W.Frag) : List V → Hp → VK → Prop := fun xs H Q => ∃ x d, xs = [x] ∧ Dp K H x d ∧ d.showable = true ∧ d.hasDict = false ∧ d.depth ≤ 60 ∧ d.shown.length ≤ sizeLine ∧ Q (.str d.shown) H
theorem reprD (K : PySem.W.Frag) {i : Nat} (hr : Room i X.A) (gd : X.A.guards = some []) (h : X.K = K := by rfl) : CallR X (.builtin "repr") (rRepr K) := by
  subst h
  intro pins s σ H xs us Q I r hw
  obtain ⟨x, d, rfl, hd, h1, h2, h3, h4, q⟩ := hw
  obtain ⟨u, rfl, ru⟩ := vals1 r
  cases hd with
  | non =>
    cases ru
    exact PySem.P.repr_of_none ⟨.str _, H, I.tok _, ⟨_, rfl⟩, q⟩
  | bl b =>
    cases ru
    exact PySem.P.repr_of_bool ⟨.str _, H, I.tok _, ⟨_, rfl⟩, q⟩
  | int n =>
    obtain ⟨t, rfl⟩ := ru
    exact PySem.P.repr_of_int (of_decide_eq_true h1) ⟨.str _, H, I.tok _, ⟨_, rfl⟩, q⟩
  | str z =>
    obtain ⟨t, rfl⟩ := ru
    exact PySem.P.repr_of_str ⟨.str _, H, I.tok _, ⟨_, rfl⟩, q⟩ h4
  | @lst a zs ds hs ha =>
    cases ru
    obtain ⟨as, rd⟩ := Dp.reads I _ _ _ (Dp.lst hs ha) (show RelV (.ref a) (.ref a) from rfl)
    refine repr_of_reads' (h₀ := s.heap) rd h1 (PyData.noDict_hsm h2) gd ?_ (fun _ _ z => z) (fun h' u tk k => ⟨.str _, H, I.kept (t' := tk) k, ⟨u, rfl⟩, q⟩) h4
    have := hr.units
    omega
  | @tup a zs ds hs ha =>
    cases ru
    obtain ⟨as, rd⟩ := Dp.reads I _ _ _ (Dp.tup hs ha) (show RelV (.ref a) (.ref a) from rfl)
    refine repr_of_reads' (h₀ := s.heap) rd h1 (PyData.noDict_hsm h2) gd ?_ (fun _ _ z => z) (fun h' u tk k => ⟨.str _, H, I.kept (t' := tk) k, ⟨u, rfl⟩, q⟩) h4
    have := hr.units
    omega
end
/-- the law's own call -/
theorem law_callG {P : Program} {w : World} {K : PySem.W.Frag} {mg mb : Str → Option Value} {k : Nat} {fa a : Addr} {fd : FuncData} {x : Str} {sp : Sp} {s₁ : Shared} {vs : List Value} {ns : List Int}
    (inK : K.In s₁.heap) (hmg : s₁.heap.Ns mainGlobals mg) (hmb : s₁.heap.Ns builtinsNs mb) (boot : ∀ x : Str, x ≠ "__name__" → mb x = bootBuiltins x) (nolim : s₁.heap.NoLimit) (gens : s₁.gens = #[])
    (ha : s₁.heap.get? a = some { cls := .type "list", data := .seq vs.toArray }) (hi : IntsAre vs ns) (hl : ns.length ≤ sizeLine) (room : Room k callerA)
    (F : ∀ base : Heap, K.In base → base.Ns mainGlobals mg → GFn P w K mg base CX0 k fa fd [x] sp) (bnd : ∀ (s : Shared) (u : Value), BindsTo s fd ⟨[u], []⟩ [(x, u)])
    (want : ∀ H : Hp, Only H → SqL K H a (ns.map V.int) → sp [.ref a] H (fun v _ => v = .bl true) fun _ _ _ => False) :
    codeAny (model P w) callerA (.call (.ref fa) ⟨[.ref a], []⟩) (fun r s2 => r = .ok (.ret (.bool true)) ∧ OldK s₁.heap s2.heap ∧ s2.os = s₁.os ∧ AllBare s2.gens) s₁ := by
  have rel := vals_ints hi
  have lens := hi.length
  have main : ∀ H : Hp, Only H → SqL K H a (ns.map V.int) → HOk P w H s₁.heap → (∀ b, H b ≠ none → b = a) → (H a ≠ none → K.lookup a = none) →
      codeAny (model P w) callerA (.call (.ref fa) ⟨[.ref a], []⟩) (fun r s2 => r = .ok (.ret (.bool true)) ∧ OldK s₁.heap s2.heap ∧ s2.os = s₁.os ∧ AllBare s2.gens) s₁ := by
    intro H only seq hok onlyA notK
    have dict0 : ∀ {b : Addr} {o : Obj} {es : Array DictEntry} {ep : Nat}, s₁.heap.get? b = some o → o.data = .dict es ep → H b = none := by
      intro b o es ep e dd
      cases hb : H b with
      | none => rfl
      | some u =>
        have eb : b = a := onlyA b (by rw [hb]; exact Option.some_ne_none u)
        rw [eb, ha] at e
        have eo := Option.some.inj e
        rw [← eo] at dd
        cases dd
    have nsT : ∀ {b : Addr} {m : Str → Option Value}, s₁.heap.Ns b m → (hidT s₁.heap H).Ns b m := by
      rintro b m ⟨o, es, ep, e, dd, rr⟩
      exact ⟨o, es, ep, hidT_get e (dict0 e dd), dd, rr⟩
    have inT : K.In (hidT s₁.heap H) := fun b o e => hidT_get (inK b o e) (by
      cases hb : H b with
      | none => rfl
      | some u =>
        have eb : b = a := onlyA b (by rw [hb]; exact Option.some_ne_none u)
        have nk := notK (by rw [← eb, hb]; exact Option.some_ne_none u)
        rw [eb, nk] at e
        cases e)
    have md : Mod K mg (hidT s₁.heap H) := by
      obtain ⟨mc, z1, z2⟩ := nolim
      exact ⟨inT, nsT hmg, ⟨mb, nsT hmb, boot⟩, ⟨mc, nsT z1, z2⟩⟩
    have env0 : Env0 P w K mg (hidT s₁.heap H) callerA [] s₁ H := ⟨rfl, md, fun b o e => of_hidT e, Nat.le_of_eq (hidT_size _ _), trivial, fun b hb => (nomatch hb), hok, .of_eq gens⟩
    refine codeAny_mono ((F _ inT (nsT hmg)).go callerA [] s₁ H ⟨[.ref a], []⟩ [.ref a] [.ref a] _ _ room rfl env0 (bnd s₁ (.ref a)) (.cons rfl .nil) (want H only seq)) fun r s2 h => ?_
    match r, h with
    | .error e, h => exact h.elim
    | .ok .next, h => exact h.elim
    | .ok .brk, h => exact h.elim
    | .ok .cont, h => exact h.elim
    | .ok (.ret u), h =>
      obtain ⟨v, H2, os2, bare, un, hok2, rv, hv⟩ := h
      have hv2 : v = .bl true := hv
      rw [hv2] at rv
      have hu : u = Value.bool true := rv
      rw [hu]
      refine ⟨rfl, OldK.of_keep fun b o e => ?_, os2, bare⟩
      cases hb : H b with
      | none => exact un.keep b o e hb (fun z => nomatch z) (fun z => nomatch z)
      | some u2 =>
        rcases only b with z | ⟨o3, xs, z⟩
        · rw [hb] at z
          cases z
        · have z2 := un.frzs b o3 _ z
          have y1 := (hok b _ z).1
          have y2 := (hok2 b _ z2).1
          rw [e] at y1
          rw [Option.some.inj y1]
          exact y2
  cases lk : K.lookup a with
  | some o =>
    have e := inK a o lk
    rw [ha] at e
    rw [← Option.some.inj e] at lk
    refine main (fun _ => none) (fun _ => .inl rfl) (.inr ⟨_, vs.toArray, _, lk, rfl, rfl, rfl, ?_, by simpa using rel⟩) (fun b u z => (nomatch z)) (fun b z => absurd rfl z) fun z => absurd rfl z
    rw [List.size_toArray, lens]
    exact hl
  | none =>
    refine main (fun b => if b = a then some (.frz { cls := .type "list", data := .seq vs.toArray } (.lst (ns.map V.int))) else none) (fun b => ?_) (.inl (.inr ⟨_, if_pos rfl⟩)) (fun b u z => ?_) (fun b z => ?_) fun _ => lk
    · by_cases eb : b = a
      · exact .inr ⟨_, _, if_pos eb⟩
      · exact .inl (if_neg eb)
    · by_cases eb : b = a
      · have z2 := (if_pos eb).symm.trans z
        have z3 := Option.some.inj z2
        rw [← z3, eb]
        exact ⟨ha, by rw [List.length_map]; exact hl, vs, _, rel, ha⟩
      · have z2 := (if_neg eb).symm.trans z
        cases z2
    · by_cases eb : b = a
      · exact eb
      · exact absurd (if_neg eb) z
theorem walkG {l : PySem.W.OpenLaw} {n k : Nat} {q : Program} {loose : List Str} {XP : (Str → Option Value) → Heap → Prop} {YP : World → Heap → Prop} {d : DefRec} {x : Str}
    (hn : l.most = some n) (hn2 : n ≤ sizeLine) (hdf : d.params.defaults = []) (room : Room k callerA)
    (F : ∀ (w : World) (mg : Str → Option Value) (fa : Addr) (h : Heap), YP w h → h.Ns mainGlobals mg → mg d.name = some (.ref fa) →
      ∃ (K : PySem.W.Frag) (fd : FuncData) (sp : Sp), K.In h ∧ (∀ (s : Shared) (u : Value), BindsTo s fd ⟨[u], []⟩ [(x, u)]) ∧
        (∀ (H : Hp) (a : Addr) (ns : List Int), ns.length ≤ n → Only H → SqL K H a (ns.map V.int) → sp [.ref a] H (fun v _ => v = .bl true) fun _ _ _ => False) ∧
        ∀ base : Heap, K.In base → base.Ns mainGlobals mg → GFn l.prog w K mg base CX0 k fa fd [x] sp) :
    PySem.W.WalkO q loose XP YP l.row.toRowW d [] (fun f vs => PySem.call f vs) := by
  refine Att.attach_call hn hdf fun w s₀ s₁ mg mb fa o pm cd doc a vs ns G Y ho hd hcd hmg hobj hints hlen hg => ?_
  obtain ⟨K, fd, sp, inK, hb, want, hF⟩ := F w mg fa _ Y G.T.g hmg
  exact law_callG inK G.T.g G.T.b G.T.builtins G.T.nolimit hg hobj hints (Nat.le_trans hlen hn2) room hF hb fun H only seq => want H a ns hlen only seq
end WK
/-! ## Part 3: what stays in the heap -/
namespace WK
open PySem PySem.Spec PyProof.Rows L2
/-- all that H tells but of a stays told -/
def But (a : Addr) (H H' : Hp) : Prop := ∀ b o, b ≠ a → H b = some o → H' b = some o
theorem But.refl {a : Addr} {H : Hp} : But a H H := fun _ _ _ h => h
theorem But.trans {a : Addr} {H H1 H2 : Hp} (x : But a H H1) (y : But a H1 H2) : But a H H2 := fun b o n h => y b o n (x b o n h)
theorem But.at {a : Addr} {H H' : Hp} {o : HO} (x : But a H H') : But a H (upd H' a o) := fun b u n h => by
  rw [upd_ne n]
  exact x b u n h
theorem But.new {a p : Addr} {H H' : Hp} {o : HO} (x : But a H H') (np : H' p = none) : But a H (upd H' p o) := fun b u n h => by
  have h2 := x b u n h
  rw [upd_ne (ne_of_none h2 np)]
  exact h2
theorem But.of_same {a : Addr} {H H' : Hp} (x : Same H H') : But a H H' := fun b o _ h => x b o h
theorem But.fresh {a p : Addr} {H H' : Hp} (x : But a H H') (n : p ≠ a) (h : H' p = none) : H p = none := by
  cases q : H p with
  | none => rfl
  | some o =>
    have := x p o n q
    rw [h] at this
    cases this
theorem But.sqT {K : PySem.W.Frag} {a t : Addr} {H H' : Hp} {zs xs : List V} (x : But a H H') (ha : H a = some (.lst zs)) (h : SqT K H t xs) : SqT K H' t xs := by
  rcases h with (h | ⟨o, h⟩) | h
  · exact .inl (.inl (x t _ (ne_of h ha (by intro z; cases z)) h))
  · exact .inl (.inr ⟨o, x t _ (ne_of h ha (by intro z; cases z)) h⟩)
  · exact .inr h
theorem But.sqL {K : PySem.W.Frag} {a t : Addr} {H H' : Hp} {xs : List V} (x : But a H H') (n : t ≠ a) (h : SqL K H t xs) : SqL K H' t xs := by
  rcases h with (h | ⟨o, h⟩) | h
  · exact .inl (.inl (x t _ n h))
  · exact .inl (.inr ⟨o, x t _ n h⟩)
  · exact .inr h
theorem same_new {H : Hp} {p : Addr} {o : HO} (np : H p = none) : Same H (upd H p o) := fun b u e => by
  rw [upd_ne (ne_of_none e np)]
  exact e
theorem _root_.L2.Same.new {H H' : Hp} {p : Addr} {o : HO} (x : Same H H') (np : H' p = none) : Same H (upd H' p o) := x.trans (same_new np)
theorem _root_.L2.Same.own {H H' : Hp} {p : Addr} {o : HO} (x : Same H H') (np : H p = none) : Same H (upd H' p o) := fun b u e => by
  rw [upd_ne (ne_of_none e np)]
  exact x b u e
theorem _root_.L2.Same.sqT {K : PySem.W.Frag} {t : Addr} {H H' : Hp} {xs : List V} (x : Same H H') (h : SqT K H t xs) : SqT K H' t xs := by
  rcases h with (h | ⟨o, h⟩) | h
  · exact .inl (.inl (x t _ h))
  · exact .inl (.inr ⟨o, x t _ h⟩)
  · exact .inr h
theorem sqT_of {K : PySem.W.Frag} {H : Hp} {a : Addr} {xs : List V} (h : H a = some (.tup xs)) : SqT K H a xs := .inl (.inl h)
theorem sqL_of {K : PySem.W.Frag} {H : Hp} {a : Addr} {xs : List V} (h : H a = some (.lst xs)) : SqL K H a xs := .inl (.inl h)
theorem upd_at {H : Hp} {a b : Addr} {o u : HO} (n : b ≠ a) (h : H b = some u) : upd H a o b = some u := by
  rw [upd_ne n]
  exact h
theorem upd_new {H : Hp} {a b : Addr} {o u : HO} (n : H a = none) (h : H b = some u) : upd H a o b = some u := by
  rw [upd_ne (ne_of_none h n)]
  exact h
/-! ### sizes -/
theorem pow_nat (k : Nat) : (2 : Int) ^ k = ((2 ^ k : Nat) : Int) := PySem.W.kbt_cast k ▸ rfl
theorem pow_pos' (k : Nat) : (0 : Int) < 2 ^ k := PySem.W.kbt_pos k
theorem abs_pow (k : Nat) : ((2 : Int) ^ k).natAbs = 2 ^ k := by
  rw [pow_nat, Int.natAbs_natCast]
theorem cdiv_pow {i : Int} {k : Nat} (h : k ≤ 8000) : CDivW i (2 ^ k) :=
  wide_div (b := k + 1) (pow_pos' k) (by rw [abs_pow]; exact Nat.pow_lt_pow_right (by omega) (by omega)) (by omega) (by omega)
theorem cdiv_of {i j : Int} {k : Nat} (h0 : 0 < j) (h : j < 2 ^ k) (hk : k ≤ 8000) : CDivW i j := by
  refine wide_div (b := k + 1) h0 ?_ (by omega) (by omega)
  have h1 : ((j.natAbs : Nat) : Int) < ((2 ^ k : Nat) : Int) := by
    rw [← pow_nat]
    omega
  have h2 := Int.ofNat_lt.mp h1
  exact Nat.lt_trans h2 (Nat.pow_lt_pow_right (by omega) (by omega))
theorem abs_lt {i : Int} {k : Nat} (h0 : -(2 ^ k) < i) (h : i < 2 ^ k) : i.natAbs < 2 ^ k := by
  have h1 : ((i.natAbs : Nat) : Int) < ((2 ^ k : Nat) : Int) := by
    rw [← pow_nat]
    omega
  exact Int.ofNat_lt.mp h1
theorem nn_lt {i : Int} {k : Nat} (h0 : 0 ≤ i) (h : i < 2 ^ k) : i.natAbs < 2 ^ k := abs_lt (by have := pow_pos' k; omega) h
theorem mulx_of {i j : Int} {a b : Nat} (h0 : 0 ≤ i) (hi : i < 2 ^ a) (h1 : 0 ≤ j) (hj : j < 2 ^ b) (h : a + b ≤ 100000000) : CMulX i j := mulx_ok (nn_lt h0 hi) (nn_lt h1 hj) (by omega)
theorem mul_lt_pow {i j : Int} {a b : Nat} (h0 : 0 ≤ i) (hi : i < 2 ^ a) (h1 : 0 ≤ j) (hj : j < 2 ^ b) : i * j < 2 ^ (a + b) := by
  have h2 := wide_lt (nn_lt h0 hi) (nn_lt h1 hj)
  have h3 : ((i * j).natAbs : Int) < ((2 ^ (a + b) : Nat) : Int) := Int.ofNat_lt.mpr h2
  rw [← pow_nat] at h3
  have := Int.mul_nonneg h0 h1
  omega
theorem pow_le {a b : Nat} (h : a ≤ b) : (2 : Int) ^ a ≤ 2 ^ b := by
  rw [pow_nat, pow_nat]
  exact Int.ofNat_le.mpr (Nat.pow_le_pow_right (by omega) h)
theorem lt_pow {i : Int} {a b : Nat} (h : i < 2 ^ a) (hab : a ≤ b) : i < 2 ^ b := Int.lt_of_lt_of_le h (pow_le hab)
theorem le_size {n : Nat} (h : n ≤ 100000) : n ≤ sizeLine := Nat.le_trans h (by decide)
theorem lt_size {n : Nat} (h : n < 100000) : n < sizeLine := Nat.lt_of_lt_of_le h (by decide)
theorem scal_ii {i j : Int} : scal (.int i) (.int j) = true := rfl
theorem scal_bb {i j : Bool} : scal (.bl i) (.bl j) = true := rfl
theorem scal_ss {i j : Str} : scal (.str i) (.str j) = true := rfl
theorem scal_nn : scal .non .non = true := rfl
theorem scal_in {i : Int} : scal (.int i) .non = true := rfl
theorem scal_ni {i : Int} : scal .non (.int i) = true := rfl
theorem scal_sn {i : Str} : scal (.str i) .non = true := rfl
theorem scal_ns {i : Str} : scal .non (.str i) = true := rfl
theorem scal_bn {i : Bool} : scal (.bl i) .non = true := rfl
theorem scal_nb {i : Bool} : scal .non (.bl i) = true := rfl
theorem scal_is {i : Int} {j : Str} : scal (.int i) (.str j) = true := rfl
theorem scal_si {i : Int} {j : Str} : scal (.str j) (.int i) = true := rfl
theorem ref_inj {a b : Addr} (h : V.ref a = V.ref b) : a = b := by
  cases h
  rfl
theorem int_eq {i j : Int} (h : i = j) : V.int i = V.int j := by rw [h]
theorem cshl_of {i : Int} {a k : Nat} (h0 : 0 ≤ i) (h : i < 2 ^ a) (hk : a + k ≤ 134217728) : CShl i (k : Int) := by
  have h1 := PyProof.Rows.intBits_le (nn_lt h0 h)
  refine ⟨Int.natCast_nonneg _, ?_⟩
  have e : (2 : Int) ^ 27 = 134217728 := by decide
  rw [e]
  omega
theorem But.keepL {K : PySem.W.Frag} {p s : Addr} {H H' : Hp} {xs : List V} (x : But p H H') (np : H p = none) (h : SqL K H s xs) : SqL K H' s xs := by
  rcases h with (h | ⟨o, h⟩) | h
  · exact .inl (.inl (x s _ (ne_of_none h np) h))
  · exact .inl (.inr ⟨o, x s _ (ne_of_none h np) h⟩)
  · exact .inr h
theorem But.own {p : Addr} {H H' : Hp} {o : HO} (x : But p H H') : But p H (upd H' p o) := x.at
end WK
/-! ## Part 4: loops and comprehensions, apart from what they walk -/
namespace WK
open PySem PySem.Spec PyProof.Rows L2
def Loop (J : It) (g : TG) (tb : TS) (D : Ends) (σ : L2.St) (H : Hp) : Prop := ∃ W : Nat → Nat → L2.St → Hp → Prop, (∃ m, W 0 m σ H) ∧ ∀ i m σ H, W i m σ H →
  (J.stop i H ∧ D.nx σ H) ∨ (J.go i H ∧ ∃ N : L2.St → Hp → Prop, (∀ σ' H', N σ' H' → ∃ m', m' < m ∧ W (i + 1) m' σ' H') ∧ ∀ x H', J.yld i H x H' → g x σ H' fun σ2 H2 => tb { D with nx := N, ct := N, bk := D.nx } σ2 H2)
theorem for_eq (wi : TI) (g : TG) (tb : TS) (D : Ends) (σ : L2.St) (H : Hp) : tFor wi g tb D σ H = wi σ H fun J H1 => Loop J g tb D σ H1 := rfl
def CompL (J : It) (g : TG) (tt : TT) (te : TE) (vs : List Nat) (σ : L2.St) (H1 : Hp) (Q : VK) : Prop := ∀ D, H1 D = none → ∃ W : Nat → Nat → Hp → Prop, (∃ m, W 0 m (upd H1 D (.lst []))) ∧ ∀ i m H, W i m H →
  (J.stop i H ∧ Q (.ref D) H) ∨ (J.go i H ∧ ∃ Nx : Hp → Prop, (∀ H', Nx H' → ∃ m', m' < m ∧ W (i + 1) m' H') ∧ ∀ x H', J.yld i H x H' → g x (wipe σ vs) H' fun σ2 H2 => wipe σ2 vs = wipe σ vs ∧ tt σ2 H2 fun b H3 =>
    if b = true then te σ2 H3 fun y H4 => ∃ acc, H4 D = some (.lst acc) ∧ acc.length < sizeLine ∧ Nx (upd H4 D (.lst (acc ++ [y]))) else Nx H3)
theorem lc_eq (wi : TI) (g : TG) (tt : TT) (te : TE) (vs : List Nat) (σ : L2.St) (H : Hp) (Q : VK) : tLc wi g tt te vs σ H Q = wi σ H fun J H1 => CompL J g tt te vs σ H1 Q := rfl
theorem yes_eq (σ : L2.St) (H : Hp) (Q : Bool → Hp → Prop) : tYes σ H Q = Q true H := rfl
section
variable {K : PySem.W.Frag} {g : TG} {tb : TS} {D : Ends} {σ : L2.St} {H : Hp}
/-- over a range -/
theorem loop_r {lo : Int} {n : Nat} (Pv : Nat → L2.St → Hp → Prop) (h0 : Pv 0 σ H) (hs : ∀ i σ H, i < n → Pv i σ H → g (.int (lo + i)) σ H fun σ2 H2 => tb { D with nx := Pv (i + 1), ct := Pv (i + 1), bk := D.nx } σ2 H2)
    (hd : ∀ σ H, Pv n σ H → D.nx σ H) : Loop (Itr lo n) g tb D σ H := for_range Pv h0 hs hd
theorem loop_r0 {n : Nat} (Pv : Nat → L2.St → Hp → Prop) (h0 : Pv 0 σ H) (hs : ∀ (i : Nat) σ H, i < n → Pv i σ H → g (.int (i : Int)) σ H fun σ2 H2 => tb { D with nx := Pv (i + 1), ct := Pv (i + 1), bk := D.nx } σ2 H2)
    (hd : ∀ σ H, Pv n σ H → D.nx σ H) : Loop (Itr 0 n) g tb D σ H := for_range Pv h0 (fun i σ H hi p => by rw [Int.zero_add]; exact hs i σ H hi p) hd
/-- over a list, a tuple that stand still -/
theorem loop_l {a : Addr} {xs : List V} (Pv : Nat → L2.St → Hp → Prop) (h0 : Pv 0 σ H) (hl : ∀ i σ H, i ≤ xs.length → Pv i σ H → SqL K H a xs)
    (hs : ∀ i x σ H, xs[i]? = some x → Pv i σ H → g x σ H fun σ2 H2 => tb { D with nx := Pv (i + 1), ct := Pv (i + 1), bk := D.nx } σ2 H2) (hd : ∀ σ H, Pv xs.length σ H → D.nx σ H) : Loop (Itl K a) g tb D σ H := for_list Pv h0 hl hs hd
theorem loop_t {a : Addr} {xs : List V} (Pv : Nat → L2.St → Hp → Prop) (h0 : Pv 0 σ H) (hl : ∀ i σ H, i ≤ xs.length → Pv i σ H → SqT K H a xs)
    (hs : ∀ i x σ H, xs[i]? = some x → Pv i σ H → g x σ H fun σ2 H2 => tb { D with nx := Pv (i + 1), ct := Pv (i + 1), bk := D.nx } σ2 H2) (hd : ∀ σ H, Pv xs.length σ H → D.nx σ H) : Loop (Itt K a) g tb D σ H := for_tup Pv h0 hl hs hd
variable {tt : TT} {te : TE} {vs : List Nat} {Q : VK}
theorem comp_r {lo : Int} {n : Nat} (Pv : Addr → Nat → Hp → Prop) (h0 : ∀ D, H D = none → Pv D 0 (upd H D (.lst [])))
    (hs : ∀ D i H', H D = none → i < n → Pv D i H' → g (.int (lo + i)) (wipe σ vs) H' fun σ2 H2 => wipe σ2 vs = wipe σ vs ∧ tt σ2 H2 fun b H3 =>
      if b = true then te σ2 H3 fun y H4 => ∃ acc, H4 D = some (.lst acc) ∧ acc.length < sizeLine ∧ Pv D (i + 1) (upd H4 D (.lst (acc ++ [y]))) else Pv D (i + 1) H3) (hd : ∀ D H', H D = none → Pv D n H' → Q (.ref D) H') : CompL (Itr lo n) g tt te vs σ H Q :=
  fun D hD => lc_range (Pv D) (h0 D hD) (fun i H' => hs D i H' hD) fun H' => hd D H' hD
theorem comp_l {a : Addr} {xs : List V} (Pv : Addr → Nat → Hp → Prop) (h0 : ∀ D, H D = none → Pv D 0 (upd H D (.lst []))) (hl : ∀ D i H', H D = none → i ≤ xs.length → Pv D i H' → SqL K H' a xs)
    (hs : ∀ D i x H', H D = none → xs[i]? = some x → Pv D i H' → g x (wipe σ vs) H' fun σ2 H2 => wipe σ2 vs = wipe σ vs ∧ tt σ2 H2 fun b H3 =>
      if b = true then te σ2 H3 fun y H4 => ∃ acc, H4 D = some (.lst acc) ∧ acc.length < sizeLine ∧ Pv D (i + 1) (upd H4 D (.lst (acc ++ [y]))) else Pv D (i + 1) H3) (hd : ∀ D H', H D = none → Pv D xs.length H' → Q (.ref D) H') : CompL (Itl K a) g tt te vs σ H Q :=
  fun D hD => lc_list (Pv D) (h0 D hD) (fun i H' => hl D i H' hD) (fun i x H' => hs D i x H' hD) fun H' => hd D H' hD
theorem comp_t {a : Addr} {xs : List V} (Pv : Addr → Nat → Hp → Prop) (h0 : ∀ D, H D = none → Pv D 0 (upd H D (.lst []))) (hl : ∀ D i H', H D = none → i ≤ xs.length → Pv D i H' → SqT K H' a xs)
    (hs : ∀ D i x H', H D = none → xs[i]? = some x → Pv D i H' → g x (wipe σ vs) H' fun σ2 H2 => wipe σ2 vs = wipe σ vs ∧ tt σ2 H2 fun b H3 =>
      if b = true then te σ2 H3 fun y H4 => ∃ acc, H4 D = some (.lst acc) ∧ acc.length < sizeLine ∧ Pv D (i + 1) (upd H4 D (.lst (acc ++ [y]))) else Pv D (i + 1) H3) (hd : ∀ D H', H D = none → Pv D xs.length H' → Q (.ref D) H') : CompL (Itt K a) g tt te vs σ H Q :=
  fun D hD => lc_tup (Pv D) (h0 D hD) (fun i H' => hl D i H' hD) (fun i x H' => hs D i x H' hD) fun H' => hd D H' hD
/-- items that are reckoned and make nothing: the list of them -/
theorem comp_r_map {lo : Int} {n : Nat} (f : Nat → V) (hn : n < 100000)
    (hs : ∀ (i : Nat) H' (Qk : VK), i < n → Same H H' → Qk (f i) H' → g (.int (lo + i)) (wipe σ vs) H' fun σ2 H2 => wipe σ2 vs = wipe σ vs ∧ tt σ2 H2 fun b H3 => if b = true then te σ2 H3 Qk else False)
    (hd : ∀ D, H D = none → Q (.ref D) (upd H D (.lst ((List.range n).map f)))) (mt : ∀ σ H (R R' : Bool → Hp → Prop), (∀ b H', R b H' → R' b H') → tt σ H R → tt σ H R')
    (mg : ∀ v σ H (R R' : L2.St → Hp → Prop), (∀ σ' H', R σ' H' → R' σ' H') → g v σ H R → g v σ H R') : CompL (Itr lo n) g tt te vs σ H Q := by
  refine comp_r (fun D i H' => H' = upd H D (.lst ((List.range i).map f))) (fun D hD => rfl) (fun D i H' hD hi e => ?_) (fun D H' hD e => by rw [e]; exact hd D hD)
  subst e
  refine mg _ _ _ _ _ (fun σ2 H2 h => ⟨h.1, mt _ _ _ _ (fun b H3 h3 => ?_) h.2⟩) (hs i _ (fun y H4 => ∃ acc, H4 D = some (.lst acc) ∧ acc.length < sizeLine ∧ upd H4 D (.lst (acc ++ [y])) = upd H D (.lst ((List.range (i + 1)).map f))) hi (same_new hD) ?_)
  · cases b with
    | true => exact h3
    | false => exact h3.elim
  · refine ⟨_, upd_same, ?_, ?_⟩
    · rw [List.length_map, List.length_range]
      exact lt_size (by omega)
    · rw [upd_upd, List.range_succ, List.map_append]
      rfl
end
/-! ### where a reading is cut -/
def tSeqB (t u : TS) : TS := tSeq t u
theorem pss_consB {X : Cx} {st : Stmt} {rest : List Stmt} {t u : TS} (h1 : PS X st t) (h2 : PSs X rest u) : PSs X (st :: rest) (tSeqB t u) := pss_cons h1 h2
/-- the first part leads to what I tells, and what I tells is enough for the rest -/
theorem seq_by {t u : TS} {D : Ends} {σ : L2.St} {H : Hp} (I : L2.St → Hp → Prop) (h2 : ∀ σ' H', I σ' H' → u D σ' H') (h1 : ∀ k : L2.St → Hp → Prop, (∀ σ' H', I σ' H' → k σ' H') → t { D with nx := k } σ H) : tSeqB t u D σ H := h1 _ h2
/-! ### over any walk that the kit tells of -/
section
variable {J : It} {n : Nat} {G : Hp → Prop} {Y : Nat → Hp → V → Hp → Prop} {g : TG} {tb : TS} {D : Ends} {σ : L2.St} {H : Hp}
theorem loop_w (w : Walk J n G Y) (Pv : Nat → L2.St → Hp → Prop) (h0 : Pv 0 σ H) (hG : ∀ i σ H, i ≤ n → Pv i σ H → G H)
    (hs : ∀ i x σ H H', i < n → Pv i σ H → Y i H x H' → g x σ H' fun σ2 H2 => tb { D with nx := Pv (i + 1), ct := Pv (i + 1), bk := D.nx } σ2 H2) (hd : ∀ σ H, Pv n σ H → D.nx σ H) : Loop J g tb D σ H := for_it w Pv h0 hG hs hd
variable {tt : TT} {te : TE} {vs : List Nat} {Q : VK}
theorem comp_w (w : Walk J n G Y) (Pv : Addr → Nat → Hp → Prop) (h0 : ∀ D, H D = none → Pv D 0 (upd H D (.lst []))) (hG : ∀ D i H', H D = none → i ≤ n → Pv D i H' → G H')
    (hs : ∀ D i x H' H2, H D = none → i < n → Pv D i H' → Y i H' x H2 → g x (wipe σ vs) H2 fun σ2 H2 => wipe σ2 vs = wipe σ vs ∧ tt σ2 H2 fun b H3 =>
      if b = true then te σ2 H3 fun y H4 => ∃ acc, H4 D = some (.lst acc) ∧ acc.length < sizeLine ∧ Pv D (i + 1) (upd H4 D (.lst (acc ++ [y]))) else Pv D (i + 1) H3) (hd : ∀ D H', H D = none → Pv D n H' → Q (.ref D) H') : CompL J g tt te vs σ H Q :=
  fun D hD => lc_it w (Pv D) (h0 D hD) (fun i H' => hG D i H' hD) (fun i x H' H2 => hs D i x H' H2 hD) fun H' => hd D H' hD
end
end WK
/-! ## the mathematics of blocks and middles -/
namespace WK
theorem lo_iff {s lo i : Int} (hs : 0 < s) : (lo + s - 1) / s ≤ i ↔ lo ≤ i * s := by
  have h := Int.ediv_lt_iff_lt_mul (a := lo + s - 1) (b := i + 1) hs
  have e : (i + 1) * s = i * s + s := by rw [Int.add_mul, Int.one_mul]
  rw [e] at h
  constructor
  · intro z
    have := h.mp (by omega)
    omega
  · intro z
    have := h.mpr (by omega)
    omega
theorem hi_iff {s hi i : Int} (hs : 0 < s) : i + 1 ≤ (hi + 1) / s ↔ (i + 1) * s - 1 ≤ hi := by
  have h := Int.le_ediv_iff_mul_le (a := i + 1) (b := hi + 1) hs
  constructor
  · intro z
    have := h.mp z
    omega
  · intro z
    exact h.mpr (by omega)
/-- the blocks of size s that lie within lo .. hi -/
def blk (s lo hi : Int) : Int := if (hi + 1) / s - (lo + s - 1) / s > 0 then (hi + 1) / s - (lo + s - 1) / s else 0
/-- .. counted one by one -/
def cntB (s lo hi : Int) : Nat → Int
  | 0 => 0
  | i + 1 => cntB s lo hi i + (if (decide (lo ≤ (i : Int) * s) && decide (((i : Int) + 1) * s - 1 ≤ hi)) = true then 1 else 0)
theorem cntB_eq {s lo hi : Int} (hs : 0 < s) (h0 : 0 ≤ lo) : ∀ i : Nat, ∃ m c : Int, m = (if (i : Int) ≤ (hi + 1) / s then (i : Int) else (hi + 1) / s) ∧ c = (lo + s - 1) / s ∧ 0 ≤ c ∧ cntB s lo hi i = (if m - c > 0 then m - c else 0)
  | 0 => by
    have hc : 0 ≤ (lo + s - 1) / s := Int.ediv_nonneg (by omega) (by omega)
    refine ⟨_, _, rfl, rfl, hc, ?_⟩
    have q : ¬ (if ((0 : Nat) : Int) ≤ (hi + 1) / s then ((0 : Nat) : Int) else (hi + 1) / s) - (lo + s - 1) / s > 0 := by
      simp only [Int.natCast_zero]
      split <;> omega
    rw [if_neg q]
    rfl
  | i + 1 => by
    obtain ⟨m, c, em, ec, hc, e⟩ := cntB_eq hs h0 i
    refine ⟨_, c, rfl, ec, hc, ?_⟩
    have a1 := lo_iff (lo := lo) (i := (i : Int)) hs
    have a2 := hi_iff (hi := hi) (i := (i : Int)) hs
    rw [← ec] at a1
    generalize (hi + 1) / s = d at em a2 ⊢
    show cntB s lo hi i + _ = _
    rw [e, em]
    have e1 : ((i + 1 : Nat) : Int) = (i : Int) + 1 := Int.natCast_succ i
    rw [e1]
    by_cases b1 : lo ≤ (i : Int) * s
    · have b1' := a1.mpr b1
      by_cases b2 : ((i : Int) + 1) * s - 1 ≤ hi
      · have b2' := a2.mpr b2
        rw [if_pos (show (decide (lo ≤ (i : Int) * s) && decide (((i : Int) + 1) * s - 1 ≤ hi)) = true by rw [decide_eq_true b1, decide_eq_true b2]; rfl)]
        rw [if_pos (show (i : Int) ≤ d by omega), if_pos (show (i : Int) + 1 ≤ d by omega)]
        by_cases q : (i : Int) - c > 0
        · rw [if_pos q, if_pos (by omega)]
          omega
        · rw [if_neg q, if_pos (by omega)]
          omega
      · have b2' : ¬ (i : Int) + 1 ≤ d := fun z => b2 (a2.mp z)
        rw [if_neg (show ¬ (decide (lo ≤ (i : Int) * s) && decide (((i : Int) + 1) * s - 1 ≤ hi)) = true by rw [decide_eq_false b2, Bool.and_false]; exact Bool.false_ne_true)]
        rw [if_neg b2', Int.add_zero]
        by_cases q : (i : Int) ≤ d
        · rw [if_pos q]
          have : (i : Int) = d := by omega
          rw [this]
        · rw [if_neg q]
    · have b1' : ¬ c ≤ (i : Int) := fun z => b1 (a1.mp z)
      rw [if_neg (show ¬ (decide (lo ≤ (i : Int) * s) && decide (((i : Int) + 1) * s - 1 ≤ hi)) = true by rw [decide_eq_false b1, Bool.false_and]; exact Bool.false_ne_true), Int.add_zero]
      have q1 : ¬ (if (i : Int) ≤ d then (i : Int) else d) - c > 0 := by
        split <;> omega
      have q2 : ¬ (if (i : Int) + 1 ≤ d then (i : Int) + 1 else d) - c > 0 := by
        split <;> omega
      rw [if_neg q1, if_neg q2]
/-- all blocks of an axis are asked -/
theorem cntB_all {s lo hi : Int} {n : Nat} (hs : 0 < s) (h0 : 0 ≤ lo) (hn : hi < (n : Int) * s) : cntB s lo hi n = blk s lo hi := by
  obtain ⟨m, c, em, ec, hc, e⟩ := cntB_eq (hi := hi) hs h0 n
  have hd : (hi + 1) / s ≤ (n : Int) := by
    have := (Int.ediv_lt_iff_lt_mul (a := hi + 1) (b := (n : Int) + 1) hs).mpr (by rw [Int.add_mul, Int.one_mul]; omega)
    omega
  have em2 : m = (hi + 1) / s := by
    rw [em]
    split
    · omega
    · rfl
  rw [e, em2, ec] <;> rfl
/-- the middles of blocks of size 2 h within lo + 1 .. hi -/
def mid (h lo hi : Int) : Int := hi / h - lo / h - hi / (2 * h) + lo / (2 * h)
def cntM (h lo hi : Int) : Nat → Int
  | 0 => 0
  | i + 1 => cntM h lo hi i + (if (decide (lo < (i : Int) * (2 * h) + h) && decide ((i : Int) * (2 * h) + h ≤ hi)) = true then 1 else 0)
theorem mid_iff {h x i : Int} (hh : 0 < h) : i * (2 * h) + h ≤ x ↔ i < (x / h + 1) / 2 := by
  have a := Int.le_ediv_iff_mul_le (a := 2 * i + 1) (b := x) hh
  have e : (2 * i + 1) * h = i * (2 * h) + h := by rw [Int.add_mul, Int.one_mul, Int.mul_left_comm i 2 h, Int.mul_assoc]
  rw [e] at a
  rw [← a]
  generalize x / h = y
  omega
theorem mid_half {h x : Int} (hh : 0 < h) : x / h - x / (2 * h) = (x / h + 1) / 2 := by
  have e : x / (2 * h) = x / h / 2 := by
    rw [Int.mul_comm 2 h]
    exact (Int.ediv_ediv_of_nonneg (by omega)).symm
  rw [e]
  generalize x / h = y
  omega
theorem mid_eq {h lo hi : Int} (hh : 0 < h) : mid h lo hi = (hi / h + 1) / 2 - (lo / h + 1) / 2 := by
  rw [← mid_half (x := hi) hh, ← mid_half (x := lo) hh]
  unfold mid
  omega
theorem cntM_eq {h lo hi : Int} (hh : 0 < h) (hl : lo ≤ hi) : ∀ i : Nat, cntM h lo hi i = (if (i : Int) ≤ (hi / h + 1) / 2 then (i : Int) else (hi / h + 1) / 2) - (if (i : Int) ≤ (lo / h + 1) / 2 then (i : Int) else (lo / h + 1) / 2) ∨ (lo < 0)
  | 0 => by
    by_cases z : lo < 0
    · exact .inr z
    · left
      have l1 : 0 ≤ lo / h := Int.ediv_nonneg (by omega) (by omega)
      have l2 : 0 ≤ hi / h := Int.ediv_nonneg (by omega) (by omega)
      show (0 : Int) = _
      rw [if_pos (by simp only [Int.natCast_zero]; omega), if_pos (by simp only [Int.natCast_zero]; omega)]
      omega
  | i + 1 => by
    rcases cntM_eq hh hl i with e | z
    · left
      have a1 := mid_iff (x := lo) (i := (i : Int)) hh
      have a2 := mid_iff (x := hi) (i := (i : Int)) hh
      have l3 : lo / h ≤ hi / h := Int.ediv_le_ediv hh hl
      generalize lo / h = p at *
      generalize hi / h = q at *
      show cntM h lo hi i + _ = _
      have e1 : ((i + 1 : Nat) : Int) = (i : Int) + 1 := Int.natCast_succ i
      rw [e, e1]
      generalize (i : Int) * (2 * h) + h = y at *
      by_cases b1 : lo < y
      · by_cases b2 : y ≤ hi
        · rw [if_pos (show (decide (lo < y) && decide (y ≤ hi)) = true by rw [decide_eq_true b1, decide_eq_true b2]; rfl)]
          have c1 : ¬ (i : Int) < (p + 1) / 2 := fun z => by
            have := a1.mpr z
            omega
          have c2 := a2.mp b2
          rw [if_pos (show (i : Int) ≤ (q + 1) / 2 by omega), if_pos (show (i : Int) + 1 ≤ (q + 1) / 2 by omega)]
          rw [if_neg (show ¬ (i : Int) + 1 ≤ (p + 1) / 2 by omega)]
          split <;> omega
        · rw [if_neg (show ¬ (decide (lo < y) && decide (y ≤ hi)) = true by rw [decide_eq_false b2, Bool.and_false]; exact Bool.false_ne_true)]
          have c1 : ¬ (i : Int) < (p + 1) / 2 := fun z => by
            have := a1.mpr z
            omega
          have c2 : ¬ (i : Int) < (q + 1) / 2 := fun z => b2 (a2.mpr z)
          rw [if_neg (show ¬ (i : Int) + 1 ≤ (q + 1) / 2 by omega), if_neg (show ¬ (i : Int) + 1 ≤ (p + 1) / 2 by omega)]
          split <;> split <;> omega
      · rw [if_neg (show ¬ (decide (lo < y) && decide (y ≤ hi)) = true by rw [decide_eq_false b1, Bool.false_and]; exact Bool.false_ne_true)]
        have c1 := a1.mp (by omega)
        have c2 : (i : Int) < (q + 1) / 2 := by omega
        rw [if_pos (show (i : Int) + 1 ≤ (q + 1) / 2 by omega), if_pos (show (i : Int) + 1 ≤ (p + 1) / 2 by omega), if_pos (show (i : Int) ≤ (q + 1) / 2 by omega), if_pos (show (i : Int) ≤ (p + 1) / 2 by omega)]
        omega
    · exact .inr z
theorem cntM_all {h lo hi : Int} {n : Nat} (hh : 0 < h) (h0 : 0 ≤ lo) (hl : lo ≤ hi) (hn : hi < (n : Int) * (2 * h)) : cntM h lo hi n = mid h lo hi := by
  rcases cntM_eq hh hl n with e | z
  · have hd : (hi / h + 1) / 2 ≤ (n : Int) := by
      have a := mid_iff (x := hi) (i := (n : Int)) hh
      have : ¬ (n : Int) * (2 * h) + h ≤ hi := by omega
      have := fun z => this (a.mpr z)
      omega
    have l3 : lo / h ≤ hi / h := Int.ediv_le_ediv hh hl
    rw [e, mid_eq hh]
    have e1 : (if (n : Int) ≤ (hi / h + 1) / 2 then (n : Int) else (hi / h + 1) / 2) = (hi / h + 1) / 2 := by
      split <;> omega
    have e2 : (if (n : Int) ≤ (lo / h + 1) / 2 then (n : Int) else (lo / h + 1) / 2) = (lo / h + 1) / 2 := by
      split <;> omega
    rw [e1, e2]
  · omega
/-- more bits behind change nothing -/
theorem blk_wide {s lo hi m : Int} (hs : 0 < s) (hm : 0 < m) : blk (s * m) (lo * m) ((hi + 1) * m - 1) = blk s lo hi := by
  have e1 : ((hi + 1) * m - 1 + 1) / (s * m) = (hi + 1) / s := by
    rw [Int.sub_add_cancel]
    exact Int.mul_ediv_mul_of_pos_left _ _ hm
  have e2 : (lo * m + s * m - 1) / (s * m) = (lo + s - 1) / s := by
    have hsm : 0 < s * m := Int.mul_pos hs hm
    apply Int.le_antisymm
    · rw [lo_iff hsm]
      have := (lo_iff (lo := lo) (i := (lo + s - 1) / s) hs).mp (Int.le_refl _)
      rw [← Int.mul_assoc]
      exact Int.mul_le_mul_of_nonneg_right this (by omega)
    · rw [lo_iff hs]
      have := (lo_iff (lo := lo * m) (i := (lo * m + s * m - 1) / (s * m)) hsm).mp (Int.le_refl _)
      rw [← Int.mul_assoc] at this
      exact Int.le_of_mul_le_mul_right this hm
  unfold blk
  rw [e1, e2]
theorem mid_wide {h lo hi m : Int} (hh : 0 < h) (hm : 0 < m) : mid (h * m) (lo * m) ((hi + 1) * m - 1) = mid h lo hi := by
  have d : ∀ {t : Int}, 0 < t → ((hi + 1) * m - 1) / (t * m) = hi / t := fun {t} ht => by
    have htm : 0 < t * m := Int.mul_pos ht hm
    apply Int.le_antisymm
    · have a := (Int.le_ediv_iff_mul_le (a := ((hi + 1) * m - 1) / (t * m)) (b := (hi + 1) * m - 1) htm).mp (Int.le_refl _)
      rw [Int.le_ediv_iff_mul_le ht]
      rw [← Int.mul_assoc] at a
      have b : ((hi + 1) * m - 1) / (t * m) * t * m < (hi + 1) * m := by omega
      have := Int.lt_of_mul_lt_mul_right b (by omega)
      omega
    · rw [Int.le_ediv_iff_mul_le htm]
      have a := (Int.le_ediv_iff_mul_le (a := hi / t) (b := hi) ht).mp (Int.le_refl _)
      have b : hi / t * t * m ≤ hi * m := Int.mul_le_mul_of_nonneg_right a (by omega)
      rw [← Int.mul_assoc, Int.add_mul]
      omega
  unfold mid
  rw [d hh, Int.mul_ediv_mul_of_pos_left _ _ hm, ← Int.mul_assoc, d (by omega), Int.mul_ediv_mul_of_pos_left _ _ hm]
theorem step_div {s y : Int} (hs : 0 < s) : y / s - (y - 1) / s = if y % s = 0 then 1 else 0 := by
  have e := Int.mul_ediv_add_emod y s
  have r0 := Int.emod_nonneg y (show s ≠ 0 by omega)
  have r1 := Int.emod_lt_of_pos y hs
  rw [Int.mul_comm] at e
  generalize y / s = q at *
  generalize y % s = r at *
  have a1 : (y - 1) / s ≤ q := by
    have := (Int.ediv_lt_iff_lt_mul (a := y - 1) (b := q + 1) hs).mpr (by rw [Int.add_mul, Int.one_mul]; omega)
    omega
  have a2 : q - 1 ≤ (y - 1) / s := (Int.le_ediv_iff_mul_le hs).mpr (by rw [Int.sub_mul, Int.one_mul]; omega)
  split
  · have := (Int.ediv_lt_iff_lt_mul (a := y - 1) (b := q) hs).mpr (by omega)
    omega
  · have := (Int.le_ediv_iff_mul_le (a := q) (b := y - 1) hs).mpr (by omega)
    omega
theorem mid_f {h x : Int} (hh : 0 < h) : (x / h + 1) / 2 = (x + h) / (2 * h) := by
  rw [Int.mul_comm 2 h, ← Int.ediv_ediv_of_nonneg (by omega)]
  have := Int.add_mul_ediv_right x 1 (show h ≠ 0 by omega)
  rw [Int.one_mul] at this
  rw [this]
theorem mid_mod {h x : Int} (hh : 0 < h) : (x + h) % (2 * h) = 0 ↔ x % (2 * h) = h := by
  have e := Int.mul_ediv_add_emod x (2 * h)
  have r0 := Int.emod_nonneg x (show 2 * h ≠ 0 by omega)
  have r1 := Int.emod_lt_of_pos x (show 0 < 2 * h by omega)
  have e2 : (x + h) % (2 * h) = (x % (2 * h) + h) % (2 * h) := (Int.emod_add_emod x (2 * h) h).symm
  rw [e2]
  generalize x % (2 * h) = r at *
  by_cases z : r < h
  · rw [Int.emod_eq_of_lt (by omega) (by omega)]
    omega
  · have : (r + h) % (2 * h) = r - h := by
      have := Int.add_mul_emod_self_right (r - h) 1 (2 * h)
      rw [Int.one_mul, Int.emod_eq_of_lt (a := r - h) (by omega) (by omega)] at this
      rw [← this]
      congr 1
      omega
    rw [this]
    omega
theorem mid_at {h x : Int} (hh : 0 < h) : (x / h + 1) / 2 - ((x - 1) / h + 1) / 2 = if x % (2 * h) = h then 1 else 0 := by
  rw [mid_f hh, mid_f hh]
  have := step_div (y := x + h) (s := 2 * h) (by omega)
  rw [show x - 1 + h = x + h - 1 by omega, this]
  by_cases z : x % (2 * h) = h
  · rw [if_pos z, if_pos ((mid_mod hh).mpr z)]
  · rw [if_neg z, if_neg fun y => z ((mid_mod hh).mp y)]
theorem mid_left {h lo hi : Int} (hh : 0 < h) : mid h lo hi - mid h (lo + 1) hi = if (lo + 1) % (2 * h) = h then 1 else 0 := by
  rw [mid_eq hh, mid_eq hh, ← mid_at hh, show lo + 1 - 1 = lo by omega]
  omega
theorem mid_right {h lo hi : Int} (hh : 0 < h) : mid h lo (hi + 1) - mid h lo hi = if (hi + 1) % (2 * h) = h then 1 else 0 := by
  rw [mid_eq hh, mid_eq hh, ← mid_at hh, show hi + 1 - 1 = hi by omega]
  omega
theorem mid_cut {h lo sp hi : Int} : mid h lo sp + mid h sp hi = mid h lo hi := by
  unfold mid
  omega
theorem blk_right {s lo hi : Int} (hs : 0 < s) : blk s lo (hi + 1) - blk s lo hi = if (hi + 2) % s = 0 ∧ lo ≤ hi + 2 - s then 1 else 0 := by
  have d := step_div (y := hi + 2) hs
  have e := Int.mul_ediv_add_emod (hi + 2) s
  rw [Int.mul_comm] at e
  have l := lo_iff (lo := lo) (i := (hi + 2) / s - 1) hs
  rw [Int.sub_mul, Int.one_mul] at l
  unfold blk
  rw [show hi + 1 + 1 = hi + 2 by omega]
  rw [show hi + 2 - 1 = hi + 1 by omega] at d
  generalize (hi + 2) / s * s = qs at *
  generalize (hi + 2) / s = q at *
  generalize (hi + 1) / s = q1 at *
  generalize (lo + s - 1) / s = c at *
  by_cases z : (hi + 2) % s = 0
  · rw [if_pos z] at d
    rw [z] at e
    by_cases y : lo ≤ hi + 2 - s
    · have := l.mpr (by omega)
      rw [show (if (hi + 2) % s = 0 ∧ lo ≤ hi + 2 - s then 1 else 0 : Int) = 1 from if_pos ⟨z, y⟩]
      split <;> split <;> omega
    · have := fun w => y (by have := l.mp w; omega)
      rw [show (if (hi + 2) % s = 0 ∧ lo ≤ hi + 2 - s then 1 else 0 : Int) = 0 from if_neg fun w => y w.2]
      split <;> split <;> omega
  · rw [if_neg z] at d
    rw [show (if (hi + 2) % s = 0 ∧ lo ≤ hi + 2 - s then 1 else 0 : Int) = 0 from if_neg fun w => z w.1]
    split <;> split <;> omega
theorem blk_first {s lo hi : Int} (hs : 0 < s) : (if (hi + 1 - (lo + (0 - lo) % s)) / s > 0 then (hi + 1 - (lo + (0 - lo) % s)) / s else 0) = blk s lo hi := by
  have e := Int.mul_ediv_add_emod (0 - lo) s
  have r0 := Int.emod_nonneg (0 - lo) (show s ≠ 0 by omega)
  have r1 := Int.emod_lt_of_pos (0 - lo) hs
  have ec : lo + (0 - lo) % s = (lo + s - 1) / s * s := by
    have a1 := lo_iff (lo := lo) (i := (lo + s - 1) / s) hs
    have a2 := lo_iff (lo := lo) (i := -((0 - lo) / s)) hs
    have a3 := lo_iff (lo := lo) (i := -((0 - lo) / s) - 1) hs
    rw [Int.sub_mul, Int.one_mul] at a3
    rw [Int.neg_mul] at a2 a3
    rw [Int.mul_comm] at e
    have b2 := a2.mpr (by omega)
    have b3 : ¬ (lo + s - 1) / s ≤ -((0 - lo) / s) - 1 := fun z => by
      have := a3.mp z
      omega
    have : (lo + s - 1) / s = -((0 - lo) / s) := by omega
    rw [this, Int.neg_mul]
    omega
  rw [ec]
  have : (hi + 1 - (lo + s - 1) / s * s) / s = (hi + 1) / s - (lo + s - 1) / s := by
    have := Int.add_mul_ediv_right (hi + 1) (-((lo + s - 1) / s)) (show s ≠ 0 by omega)
    rw [Int.neg_mul] at this
    rw [Int.sub_eq_add_neg, this]
    omega
  rw [this]
  rfl
theorem blk_one {lo hi : Int} (h : lo ≤ hi) : blk 1 lo hi = hi - lo + 1 := by
  unfold blk
  rw [Int.ediv_one, Int.ediv_one]
  split <;> omega
end WK
/-! ## the text of data -/
namespace WK
open PySem PySem.Spec PyProof.Rows L2
structure DOk (h n : Nat) (d : PyData) : Prop where
  sh : d.showable = true
  nd : d.hasDict = false
  dp : d.depth ≤ h
  ln : d.shown.length ≤ n
theorem DOk.mono {h n h' n' : Nat} {d : PyData} (x : DOk h n d) (a : h ≤ h') (b : n ≤ n') : DOk h' n' d := ⟨x.sh, x.nd, Nat.le_trans x.dp a, Nat.le_trans x.ln b⟩
theorem DOk.int {i : Int} {k : Nat} (h : i.natAbs < 2 ^ k) (h0 : 0 < k) (hk : k ≤ 1900) : DOk 0 (k + 1) (.int i) := by
  refine ⟨?_, rfl, Nat.le_refl _, ?_⟩
  · show decide (i.natAbs.log2 < 1920) = true
    apply decide_eq_true
    by_cases z : i.natAbs = 0
    · rw [z]
      decide
    · have := (Nat.log2_lt z).mpr h
      omega
  · show (Str.ofString (toString i)).length ≤ _
    rw [PySem.ofString_length]
    exact int_text_length_le10 h0 (Nat.lt_of_lt_of_le h (Nat.pow_le_pow_left (by decide) k))
theorem DOk.bool {b : Bool} : DOk 0 5 (.bool b) := ⟨rfl, rfl, Nat.le_refl _, by cases b <;> decide⟩
theorem DOk.none : DOk 0 5 .none := ⟨rfl, rfl, Nat.le_refl _, by decide⟩
theorem dok_all {h n : Nat} : ∀ {ds : List PyData}, (∀ d ∈ ds, DOk h n d) → PyData.showableAll ds = true ∧ PyData.hasDictAll ds = false ∧ PyData.depthAll ds ≤ h ∧ ((PyData.shownAll ds).map (·.length)).sum ≤ ds.length * n ∧ (PyData.shownAll ds).length = ds.length
  | [], _ => ⟨rfl, rfl, Nat.zero_le _, by simp [PyData.shownAll], rfl⟩
  | d :: ds, H => by
    obtain ⟨a, b, c, e, f⟩ := dok_all (ds := ds) fun x hx => H x (List.mem_cons_of_mem _ hx)
    obtain ⟨a1, b1, c1, e1⟩ := H d List.mem_cons_self
    refine ⟨by rw [PyData.showableAll, a1, a]; rfl, by rw [PyData.hasDictAll, b1, b]; rfl, ?_, ?_, ?_⟩
    · rw [PyData.depthAll]
      exact Nat.max_le.mpr ⟨c1, c⟩
    · simp only [PyData.shownAll, List.map_cons, List.sum_cons, List.length_cons, Nat.succ_mul]
      omega
    · simp only [PyData.shownAll, List.length_cons, f]
theorem DOk.list {h n : Nat} {ds : List PyData} (H : ∀ d ∈ ds, DOk h n d) : DOk (h + 1) (ds.length * (n + 2) + 3) (.list ds) := by
  obtain ⟨a, b, c, e, f⟩ := dok_all H
  refine ⟨by rw [PyData.showable]; exact a, by rw [PyData.hasDict]; exact b, by rw [PyData.depth]; omega, ?_⟩
  rw [PyData.shown]
  have := listText_len_le (PyData.shownAll ds)
  rw [f] at this
  rw [Nat.mul_add]
  omega
theorem DOk.tuple {h n : Nat} {ds : List PyData} (H : ∀ d ∈ ds, DOk h n d) : DOk (h + 1) (ds.length * (n + 2) + 3) (.tuple ds) := by
  obtain ⟨a, b, c, e, f⟩ := dok_all H
  refine ⟨by rw [PyData.showable]; exact a, by rw [PyData.hasDict]; exact b, by rw [PyData.depth]; omega, ?_⟩
  rw [PyData.shown]
  have := tupleText_len_le (PyData.shownAll ds)
  rw [f] at this
  rw [Nat.mul_add]
  omega
theorem DOk.str {x : Str} (hx : ∀ c ∈ x.cps.toList, c < 16 ^ 8) : DOk 0 (x.length * 10 + 2) (.str x) := by
  refine ⟨rfl, rfl, Nat.le_refl _, ?_⟩
  have e := PySem.StrLaws.reprText_len x hx
  rw [PyData.shown]
  have e2 : x.length = x.cps.size := rfl
  omega
theorem DOk.ints {k : Nat} {ns : List Int} (h : ∀ i ∈ ns, i.natAbs < 2 ^ k) (h0 : 0 < k) (hk : k ≤ 1900) : DOk 1 (ns.length * (k + 3) + 3) (.list (ns.map .int)) := by
  have := DOk.list (ds := ns.map .int) (h := 0) (n := k + 1) fun d hd => by
    obtain ⟨i, hi, rfl⟩ := List.mem_map.mp hd
    exact DOk.int (h i hi) h0 hk
  rw [List.length_map] at this
  exact this
theorem repr_do {K : PySem.W.Frag} {x : V} {d : PyData} {H : Hp} {Q : VK} {h n : Nat} (a : Dp K H x d) (b : DOk h n d) (c : h ≤ 60) (e : n ≤ 100000) (q : Q (.str d.shown) H) : rRepr K [x] H Q :=
  ⟨x, d, rfl, a, b.sh, b.nd, Nat.le_trans b.dp c, Nat.le_trans b.ln (le_size e), q⟩
theorem dp_ints {K : PySem.W.Frag} {H : Hp} : ∀ ns : List Int, DpAll K H (ns.map V.int) (ns.map .int)
  | [] => .nil
  | n :: ns => .cons (.int n) (dp_ints ns)
theorem shaped_all0 : ∀ ns : List Int, PyData.canLayAll0 (ns.map .int) = true ∧ PyData.depthAll (ns.map .int) = 0
  | [] => ⟨rfl, rfl⟩
  | n :: ns => by
    obtain ⟨a, b⟩ := shaped_all0 ns
    exact ⟨by simp only [List.map_cons, PyData.canLayAll0, PyData.canLay0, a, Bool.and_self], by simp only [List.map_cons, PyData.depthAll, PyData.depth, b, Nat.max_self]⟩
theorem eqv_ints : ∀ ns : List Int, PyData.eqvAll (ns.map .int) (ns.map .int) = true
  | [] => rfl
  | n :: ns => by
    rw [List.map_cons, PyData.eqvAll, PyData.eqv, eqv_ints ns]
    simp
/-- data that can be compared -/
structure LOk (h : Nat) (d : PyData) : Prop where
  lay : d.canLay0 = true
  dp : d.depth ≤ h
theorem LOk.mono {h h' : Nat} {d : PyData} (x : LOk h d) (a : h ≤ h') : LOk h' d := ⟨x.lay, Nat.le_trans x.dp a⟩
theorem LOk.int {i : Int} : LOk 0 (.int i) := ⟨rfl, Nat.le_refl _⟩
theorem LOk.bool {b : Bool} : LOk 0 (.bool b) := ⟨rfl, Nat.le_refl _⟩
theorem LOk.none : LOk 0 .none := ⟨rfl, Nat.le_refl _⟩
theorem lok_all {h : Nat} : ∀ {ds : List PyData}, (∀ d ∈ ds, LOk h d) → PyData.canLayAll0 ds = true ∧ PyData.depthAll ds ≤ h
  | [], _ => ⟨rfl, Nat.zero_le _⟩
  | d :: ds, H => by
    obtain ⟨a, b⟩ := lok_all (ds := ds) fun x hx => H x (List.mem_cons_of_mem _ hx)
    have h1 := H d List.mem_cons_self
    exact ⟨by rw [PyData.canLayAll0, h1.lay, a]; rfl, by rw [PyData.depthAll]; exact Nat.max_le.mpr ⟨h1.dp, b⟩⟩
theorem LOk.list {h : Nat} {ds : List PyData} (H : ∀ d ∈ ds, LOk h d) : LOk (h + 1) (.list ds) := by
  obtain ⟨a, b⟩ := lok_all H
  exact ⟨by rw [PyData.canLay0]; exact a, by rw [PyData.depth]; omega⟩
theorem LOk.tuple {h : Nat} {ds : List PyData} (H : ∀ d ∈ ds, LOk h d) : LOk (h + 1) (.tuple ds) := by
  obtain ⟨a, b⟩ := lok_all H
  exact ⟨by rw [PyData.canLay0]; exact a, by rw [PyData.depth]; omega⟩
theorem LOk.ints {ns : List Int} : LOk 1 (.list (ns.map .int)) := LOk.list fun d hd => by
  obtain ⟨i, _, rfl⟩ := List.mem_map.mp hd
  exact LOk.int
theorem LOk.intsT {ns : List Int} : LOk 1 (.tuple (ns.map .int)) := LOk.tuple fun d hd => by
  obtain ⟨i, _, rfl⟩ := List.mem_map.mp hd
  exact LOk.int
theorem LOk.shaped {h : Nat} {d : PyData} (x : LOk h d) (l : h ≤ 64 := by decide) : SeqAt.shaped d = true := by
  have := x.dp
  unfold SeqAt.shaped
  rw [x.lay, decide_eq_true (show d.depth ≤ 64 by omega)]
  rfl
/-- both are the same data -/
theorem eq_same {K : PySem.W.Frag} {x y : V} {d : PyData} {h : Nat} {H : Hp} {Q : VK} (hx : Dp K H x d) (hy : Dp K H y d) (l : LOk h d) (q : Q (.bl true) H) (hh : h ≤ 64 := by decide) : rEqD K x y H Q := by
  refine ⟨d, d, hx, hy, l.shaped hh, l.shaped hh, ?_⟩
  rw [PySem.SeqAt.eqv_refl d l.lay]
  exact q
theorem ne_same {K : PySem.W.Frag} {x y : V} {d : PyData} {h : Nat} {H : Hp} {Q : VK} (hx : Dp K H x d) (hy : Dp K H y d) (l : LOk h d) (q : Q (.bl false) H) (hh : h ≤ 64 := by decide) : rNeD K x y H Q := by
  refine ⟨d, d, hx, hy, l.shaped hh, l.shaped hh, ?_⟩
  rw [PySem.SeqAt.eqv_refl d l.lay]
  exact q
theorem dp_lst {K : PySem.W.Frag} {H : Hp} {a : Addr} {ns : List Int} (h : SqL K H a (ns.map V.int)) : Dp K H (.ref a) (.list (ns.map .int)) := .lst h (dp_ints ns)
theorem dp_tup {K : PySem.W.Frag} {H : Hp} {a : Addr} {ns : List Int} (h : SqT K H a (ns.map V.int)) : Dp K H (.ref a) (.tuple (ns.map .int)) := .tup h (dp_ints ns)
theorem DOk.intsT {k : Nat} {ns : List Int} (h : ∀ i ∈ ns, i.natAbs < 2 ^ k) (h0 : 0 < k) (hk : k ≤ 1900) : DOk 1 (ns.length * (k + 3) + 3) (.tuple (ns.map .int)) := by
  have := DOk.tuple (ds := ns.map .int) (h := 0) (n := k + 1) fun d hd => by
    obtain ⟨i, hi, rfl⟩ := List.mem_map.mp hd
    exact DOk.int (h i hi) h0 hk
  rw [List.length_map] at this
  exact this
end WK
/-! ## what the head hands over: facts, own checks, defs at reckoned places -/
namespace WK
open PySem PySem.Spec PyProof.Rows L2
def gpa (K : PySem.W.Frag) (C : Addr) (f : Str) : Addr := match PySem.W.recIn K (He.ma K C f) "property" with
  | some (.ref g :: _) => g
  | _ => 0
def propB (C f : Str) (K : PySem.W.Frag) : Bool :=
  decide (PySem.W.findIn K (.ref (He.ga K C)) f = some (some (.ref (He.ma K (He.ga K C) f)))) &&
  (decide (PySem.W.specialIn K (.ref (He.ma K (He.ga K C) f)) "__get__" = some (some (.builtin "property.__get__"))) &&
  (decide (PySem.W.takesIn K (.ref (He.ma K (He.ga K C) f)) = some true) &&
  (match PySem.W.recIn K (He.ma K (He.ga K C) f) "property" with
  | some (.ref _ :: _) => true
  | _ => false)))
theorem propB_ok {K : PySem.W.Frag} {C f : Str} (h : propB C f K = true) : PropOf K (He.ga K C) f (He.ma K (He.ga K C) f) (gpa K (He.ga K C) f) := by
  unfold propB at h
  simp only [Bool.and_eq_true, decide_eq_true_eq] at h
  obtain ⟨h1, h2, h3, h4⟩ := h
  refine ⟨h1, h2, h3, ?_⟩
  unfold gpa
  split at h4
  · rename_i g r e
    rw [e]
    exact ⟨r, rfl⟩
  · cases h4
/-- a def where it stands -/
structure DefA where
  pl : PySem.W.Frag → Addr
  d : He.DefD
def seenA (K : PySem.W.Frag) (a : Addr) : He.FnW := match K.lookup a with
  | none => none
  | some z => match z.data with
    | .func u => some (u.name, u.qualname, u.params, u.body, u.scope, u.globals, u.closure, u.builtins)
    | _ => none
def goodA (K : PySem.W.Frag) (a : Addr) (d : He.DefD) : Bool := match K.lookup a with
  | none => false
  | some z => match z.data with
    | .func u => PySem.W.keepIn K (.ref a) && (PySem.W.codeIn K u.code d.qual && (He.dflB K u.defaults (d.dvs K) && He.kwdB K u.kwdefaults (d.kws K)))
    | _ => false
theorem funA {K : PySem.W.Frag} {a : Addr} {d : He.DefD} (e : seenA K a = d.val) (c : goodA K a d = true) : ∃ fd, FunD K d.name d.qual d.params d.body d.scope (d.dvs K) (d.kws K) a fd := by
  unfold seenA at e
  unfold goodA at c
  cases q : K.lookup a with
  | none =>
    rw [q] at c
    exact absurd c Bool.false_ne_true
  | some z =>
    obtain ⟨zc, zd, zt, zs⟩ := z
    rw [q] at c e
    cases zt with
    | func u =>
      simp only [Bool.and_eq_true] at c
      obtain ⟨c1, c2, c3, c4⟩ := c
      cases u
      simp only [He.DefD.val, Option.some.injEq, Prod.mk.injEq] at e
      obtain ⟨e1, e2, e3, e4, e5, e6, e7, e8⟩ := e
      subst e1 e2 e3 e4 e5 e6 e7 e8
      exact ⟨_, ⟨zc, zd, _, _, _, _, _, _, _, zs, rfl, q, c2, He.dflB_ok c3, He.kwdB_ok c4⟩, c1⟩
    | _ => exact absurd c Bool.false_ne_true
def obsA (fa : List He.Fa) (ex : List (PySem.W.Frag → Bool)) (fn : List DefA) (K : PySem.W.Frag) : He.AlD :=
  (fa.all (He.Fa.ok K) && (ex.all (fun f => f K) && fn.all fun x => goodA K (x.pl K) x.d), fn.map fun x => seenA K (x.pl K))
def wantA (fn : List DefA) : He.AlD := (true, fn.map fun x => x.d.val)
def SaysA (fa : List He.Fa) (ex : List (PySem.W.Frag → Bool)) (fn : List DefA) (K : PySem.W.Frag) : Prop := obsA fa ex fn K = wantA fn
def obsAG (n : Nat) (fa : List He.Fa) (ex : List (PySem.W.Frag → Bool)) (fn : List DefA) (g : Addr → Option Obj) : He.AlD := obsA fa ex fn (He.frG g (He.asD g n))
def hookA (n : Nat) (fa : List He.Fa) (ex : List (PySem.W.Frag → Bool)) (fn : List DefA) : PySem.W.Hook where
  α := He.AlD
  obs s := obsAG n fa ex fn s.heap.get?
  val _ := wantA fn
  says _ h := ∃ K : PySem.W.Frag, K.In h ∧ SaysA fa ex fn K
  of _ _ e := ⟨_, He.frG_in, e⟩
  keeps _ _ _ := fun ⟨K, hK, c⟩ k => ⟨K, PySem.W.Frag.In.keeps hK k, c⟩
theorem obsAG_eq {n : Nat} {fa : List He.Fa} {ex : List (PySem.W.Frag → Bool)} {fn : List DefA} {g : Addr → Option Obj} {s : Shared} (h : ∀ a, g a = s.heap.get? a) : obsAG n fa ex fn g = (hookA n fa ex fn).obs s := by
  have := funext h
  subst this
  rfl
section
variable {fa : List He.Fa} {ex : List (PySem.W.Frag → Bool)} {fn : List DefA} {K : PySem.W.Frag}
theorem SaysA.all (c : SaysA fa ex fn K) : fa.all (He.Fa.ok K) = true ∧ ex.all (fun f => f K) = true ∧ (fn.all fun x => goodA K (x.pl K) x.d) = true := by
  have h := congrArg Prod.fst c
  simp only [obsA, wantA, Bool.and_eq_true] at h
  exact h
theorem SaysA.fact (c : SaysA fa ex fn K) (i : Nat) {f : He.Fa} (h : fa[i]? = some f := by rfl) : f.ok K = true := List.all_eq_true.mp c.all.1 f (List.mem_of_getElem? h)
theorem SaysA.own (c : SaysA fa ex fn K) (i : Nat) {f : PySem.W.Frag → Bool} (h : ex[i]? = some f := by rfl) : f K = true := List.all_eq_true.mp c.all.2.1 f (List.mem_of_getElem? h)
theorem SaysA.df (c : SaysA fa ex fn K) (i : Nat) {x : DefA} (h : fn[i]? = some x := by rfl) : ∃ fd, FunD K x.d.name x.d.qual x.d.params x.d.body x.d.scope (x.d.dvs K) (x.d.kws K) (x.pl K) fd := by
  have e : (fn.map fun x => seenA K (x.pl K)) = fn.map fun x => x.d.val := congrArg Prod.snd c
  have e2 := congrArg (fun l => l[i]?) e
  simp only [List.getElem?_map, h, Option.map_some, Option.some.injEq] at e2
  exact funA e2 (List.all_eq_true.mp c.all.2.2 x (List.mem_of_getElem? h))
end
end WK
namespace WK
open PySem PySem.Spec PyProof.Rows L2
/-- what isinstance asks of an own class -/
structure IsC (K : PySem.W.Frag) (C : Addr) : Prop where
  ha : PySem.W.findIn K (.ref C) "__class__" = some (some (.builtin "object.__class__"))
  hn : PySem.W.specialIn K (.builtin "object.__class__") "__get__" = some (some (.builtin "getset_descriptor.__get__"))
  ht : PySem.W.takesIn K (.builtin "object.__class__") = some true
  hm : PySem.W.mroIn K C (.type "object") = some true
  nt : (["int", "bool", "str", "tuple", "list"].all fun n => PySem.W.kitOne K (.ref C) (.type n) == some false) = true
def isB (C : Str) (K : PySem.W.Frag) : Bool :=
  decide (PySem.W.findIn K (.ref (He.ga K C)) "__class__" = some (some (.builtin "object.__class__"))) && (decide (PySem.W.specialIn K (.builtin "object.__class__") "__get__" = some (some (.builtin "getset_descriptor.__get__"))) &&
  (decide (PySem.W.takesIn K (.builtin "object.__class__") = some true) && (decide (PySem.W.mroIn K (He.ga K C) (.type "object") = some true) && (["int", "bool", "str", "tuple", "list"].all fun n => PySem.W.kitOne K (.ref (He.ga K C)) (.type n) == some false))))
theorem isB_ok {K : PySem.W.Frag} {C : Str} (h : isB C K = true) : IsC K (He.ga K C) := by
  unfold isB at h
  rw [Bool.and_eq_true, Bool.and_eq_true, Bool.and_eq_true, Bool.and_eq_true, decide_eq_true_eq, decide_eq_true_eq, decide_eq_true_eq, decide_eq_true_eq] at h
  exact ⟨h.1, h.2.1, h.2.2.1, h.2.2.2.1, h.2.2.2.2⟩
theorem IsC.no {K : PySem.W.Frag} {C : Addr} (i : IsC K C) {n : String} (h : n = "int" ∨ n = "bool" ∨ n = "str" ∨ n = "tuple" ∨ n = "list") : PySem.W.kitOne K (.ref C) (.type n) = some false := by
  have := List.all_eq_true.mp i.nt n (by rcases h with rfl | rfl | rfl | rfl | rfl <;> decide)
  exact beq_iff_eq.mp this
theorem IsC.ty {K : PySem.W.Frag} {C a dx : Addr} {H : Hp} {fs : List (Str × V)} (i : IsC K C) (c : Cls K C) (e : H a = some (.ins C dx fs)) : TyX K H (.ref a) (.ref C) := .base (.ins e c i.ha i.hn i.ht i.hm)
theorem kit_own {K : PySem.W.Frag} {C : Addr} : PySem.W.kitOne K (.ref C) (.ref C) = some true := by
  unfold PySem.W.kitOne
  rw [if_pos (by simp)]
end WK
/-! ## own classes, and more rules with the written part told apart -/
namespace WK
open PySem PySem.Spec PyProof.Rows L2
/-- a def at a place that keeps a promise -/
structure OkM (P : Program) (w : World) (K : PySem.W.Frag) (mg : Str → Option Value) (base : Heap) (C : CXT) (k : Nat) (a : Addr) (ps : List Str) (sp : Sp) : Prop where
  ex : ∃ fd, FnOk P w K mg base C k a fd ps sp ∧ Binds K fd ps []
theorem OkM.mk' {P : Program} {w : World} {K : PySem.W.Frag} {mg : Str → Option Value} {base : Heap} {C : CXT} {k : Nat} {x q : Str} {a : Addr} {N ps : List Str} {st : Stmt} {sp : Sp}
    (F : ∃ fd, FunD K x q (defArgs st) (defBody st) (defScope st) [] [] a fd) (S : FnScope N ps (defScope st)) (len : ∀ vs H Q E, sp vs H Q E → vs.length = ps.length)
    (hb : ∀ (kV doc pm : Value) (an : Option Addr) (cdv ct : Value) (us : List Value), us.length = ps.length → bindArgs (PySem.W.fnOf x q (defArgs st) (defBody st) (defScope st) .none kV doc pm an cdv ct) ⟨us, []⟩ = pure (ps.zip us))
    (go : ∀ (f : Addr) (cdv : Value) (A : Around) (outer : List Env) (s : Shared) (H : Hp) (vs : List V) (Q : VK) (E : XK), Room k (A.deeper (envOfC q (defScope st) s.heap.objs.size f cdv)) → sp vs H Q E →
      ∃ t, PSs (cxOf C P w K mg base N q (defScope st) f cdv A outer s H E) (defBody st) t ∧ t { nx := fun _ H' => Q .non H', rt := Q } (start N vs) H) : OkM P w K mg base C (k + 1) a ps sp :=
  let ⟨_, F⟩ := F
  ⟨⟨_, F.ok S len fun cdv A outer s H vs Q E => go _ cdv A outer s H vs Q E, F.bindsN hb⟩⟩
theorem OkM.mk0 {P : Program} {w : World} {K : PySem.W.Frag} {mg : Str → Option Value} {base : Heap} {k : Nat} {x q : Str} {a : Addr} {N ps : List Str} {st : Stmt} {sp : Sp}
    (F : ∃ fd, FunD K x q (defArgs st) (defBody st) (defScope st) [] [] a fd) (S : FnScope N ps (defScope st)) (len : ∀ vs H Q E, sp vs H Q E → vs.length = ps.length)
    (hb : ∀ (kV doc pm : Value) (an : Option Addr) (cdv ct : Value) (us : List Value), us.length = ps.length → bindArgs (PySem.W.fnOf x q (defArgs st) (defBody st) (defScope st) .none kV doc pm an cdv ct) ⟨us, []⟩ = pure (ps.zip us))
    (go : ∀ (f : Addr) (cdv : Value) (A : Around) (outer : List Env) (s : Shared) (H : Hp) (vs : List V) (Q : VK) (E : XK), Room k (A.deeper (envOfC q (defScope st) s.heap.objs.size f cdv)) → sp vs H Q E →
      ∃ t, PSs (cxOf CX0 P w K mg base N q (defScope st) f cdv A outer s H E).nox (defBody st) t ∧ t { nx := fun _ H' => Q .non H', rt := Q } (start N vs) H) : OkM P w K mg base CX0 (k + 1) a ps sp :=
  OkM.mk' F S len hb fun f cdv A outer s H vs Q E hr h =>
    let ⟨t, h1, h2⟩ := go f cdv A outer s H vs Q E hr h
    ⟨t, h1.nox, h2⟩
def tMk (C : Addr) (sp : Sp) (E : XK) (t : TA) : TE := fun σ H Q => t σ H fun vs H1 => ∀ x dx, H1 x = none → H1 dx = none → dx ≠ x → sp (.ref x :: vs) (upd (upd H1 dx (.own x)) x (.ins C dx [])) (fun v H2 => v = .non ∧ Q (.ref x) H2) E
def tPrp (C : Addr) (sp : Sp) (E : XK) (ta : TE) : TE := fun σ H Q => ta σ H fun x H1 => ∃ a dx fs, x = .ref a ∧ H1 a = some (.ins C dx fs) ∧ sp [.ref a] H1 Q E
def tMt (C : Addr) (m : Str) (sp : Sp) (E : XK) (ta : TE) (t : TA) : TE := fun σ H Q => ta σ H fun x H1 => ∃ a dx fs, x = .ref a ∧ H1 a = some (.ins C dx fs) ∧ fs.lookup m = none ∧ t σ H1 fun vs H2 => sp (.ref a :: vs) H2 Q E
section
variable {X : Cx} {k j : Nat} {C f p : Addr} {ps : List Str} {sp : Sp} {x m : Str} {np pos apos : Pos} {e o : Expr} {es : List Expr} {t : TA} {ta : TE}
theorem mkO (O : OkM X.prog X.w X.K X.mg X.base CX0 k f ps sp) (M : Mk X.K C f) (hm : X.mg x = some (.ref C)) (hr : Room j X.A) (ha : PA X (e :: es) t) (hj : k + 1 ≤ j := by first | decide | omega) (hg : Gl X x := by rfl) (hdb : (x == ("__debug__" : Str)) = false := by decide)
    (he : starEach (e :: es) X.env = (false, eval e X.env) :: starEach es X.env := by rfl) (hpl : (backTo pos (starEach es X.env)).any (·.1) = false := by rfl) : PE X (.Call (.Name x np) (e :: es) [] pos) (tMk C sp E0 t) := by
  obtain ⟨fd, F, B⟩ := O.ex
  have r := pe_make (p := np) (dvs := []) M F (hr.mono hj) hg hm B .nil pass0 ha hdb he hpl
  refine ⟨fun pins s σ H Q I h => r.run pins s σ H Q I ?_⟩
  unfold tMake
  simp only [List.append_nil]
  exact h
theorem prO (O : OkM X.prog X.w X.K X.mg X.base CX0 k f ps sp) (c : Cls X.K C) (hp : PropOf X.K C m p f) (hr : Room j X.A) (he : PE X o ta) (hj : k + 1 ≤ j := by first | decide | omega) (hab : attributeBase o m X.env (eval o X.env) = eval o X.env := by rfl) : PE X (.Attribute o m pos) (tPrp C sp E0 ta) := by
  obtain ⟨fd, F, B⟩ := O.ex
  exact pe_prop (dvs := []) he c hp F (hr.mono hj) B .nil pass0 hab
theorem pe_dead {X : Cx} {e : Expr} : PE X e (fun _ _ _ => False) := ⟨fun _ _ _ _ _ _ h => h.elim⟩
/-! ### rules, the written part told apart -/
theorem fldK (K : PySem.W.Frag) (he : PE X o ta) (h : X.K = K := by rfl) (hb : attributeBase o m X.env (eval o X.env) = eval o X.env := by rfl) : PE X (.Attribute o m pos) (tFld K ta m) := by
  subst h
  exact pe_fld he hb
theorem sfldK (K : PySem.W.Frag) {value : Expr} {tv : TE} {pos' : Pos} (ha : PE X o ta) (hv : PE X value tv) (h : X.K = K := by rfl) (hs : swapsWith value (some (.Attribute o m pos')) pos.line X.env = pure false := by rfl) : PS X (.Assign [.Attribute o m pos'] value pos) (sFld K ta tv m) := by
  subst h
  exact ps_fld ha hv hs
def rListU (K : PySem.W.Frag) : List V → Hp → VK → Prop := fun xs H Q => ∃ p ys, xs = [.ref p] ∧ (SqL K H p ys ∨ SqT K H p ys) ∧ ∀ l, H l = none → Q (.ref l) (upd H l (.lst ys))
theorem listOf (K : PySem.W.Frag) (h : X.K = K := by rfl) : CallR X (.type "list") (rListU K) := by
  subst h
  exact call_list_of
def rTupU (K : PySem.W.Frag) : List V → Hp → VK → Prop := fun xs H Q => ∃ p ys, xs = [.ref p] ∧ SqL K H p ys ∧ ∀ l, H l = none → Q (.ref l) (upd H l (.tup ys))
theorem tupleOf (K : PySem.W.Frag) (h : X.K = K := by rfl) : CallR X (.type "tuple") (rTupU K) := by
  subst h
  exact fun pins s σ H xs us Q I r h => call_tuple_of pins s σ H xs us Q I r (let ⟨p, ys, e, h1, h2⟩ := h; ⟨p, ys, e, .inl ⟨h1, h2⟩⟩)
theorem catT (K : PySem.W.Frag) (h : X.K = K := by rfl) : OpR X (binaryOp .Add) (rCatT K) := by
  subst h
  exact op_catT
theorem slT (K : PySem.W.Frag) (h : X.K = K := by rfl) : SlR X (rSlT K) := by
  subst h
  exact sl_tup
theorem slL (K : PySem.W.Frag) (h : X.K = K := by rfl) : SlR X (rSlL K) := by
  subst h
  exact sl_list
def rJn (K : PySem.W.Frag) : V → List V → Hp → VK → Prop := fun x xs H Q => ∃ a p, ∃ ys : List Str, x = .str a ∧ xs = [.ref p] ∧ SqL K H p (ys.map V.str) ∧ (ys.map (·.length)).sum + ys.length * a.length ≤ 16777216 ∧ Q (.str (Txt.join a ys)) H
theorem mtJoin (K : PySem.W.Frag) (h : X.K = K := by rfl) : MtR X "str.join" (rJn K) := by
  subst h
  exact fun pins s σ H x xs v us Q I rx rs h => mt_join pins s σ H x xs v us Q I rx rs (let ⟨a, p, ys, e1, e2, e3, e4, q⟩ := h; ⟨a, p, ys, e1, e2, .inl e3, e4, q⟩)
end
end WK
namespace WK
open PySem PySem.Spec PyProof.Rows L2
theorem tyv_s {K : PySem.W.Frag} {z : Str} {H : Hp} : tyV K "str" (.str z) H = True := eq_true rfl
theorem tyv_l {K : PySem.W.Frag} {p : Addr} {H : Hp} {xs : List V} (h : H p = some (.lst xs)) : tyV K "list" (.ref p) H := .inl ⟨rfl, xs, .inl (.inl h)⟩
theorem app_eq {x : V} {vs : List V} {H : Hp} {Q : VK} : rAppend x vs H Q = ∃ l xs y, x = .ref l ∧ vs = [y] ∧ H l = some (.lst xs) ∧ xs.length < sizeLine ∧ Q .non (upd H l (.lst (xs ++ [y]))) := rfl
end WK
namespace WK
open PySem PySem.Spec PyProof.Rows L2
theorem inSeq {X : Cx} (K : PySem.W.Frag) (h : X.K = K := by rfl) : OpR X (compareOp .In) (rIn K false) := by
  subst h
  exact op_in_seq
theorem notInSeq {X : Cx} (K : PySem.W.Frag) (h : X.K = K := by rfl) : OpR X (compareOp .NotIn) (rIn K true) := by
  subst h
  exact op_notIn_seq
theorem sortI {X : Cx} (K : PySem.W.Frag) (h : X.K = K := by rfl) : CallR X (.builtin "sorted") (rSortedI K) := by
  subst h
  exact cr_sortedI
end WK
namespace WK
open PySem PySem.Spec PyProof.Rows L2
theorem bmK {X : Cx} {o e : Expr} {es : List Expr} {to : TE} {t : TA} {name : Str} {apos cpos : Pos} {T id : String} {r : V → List V → Hp → VK → Prop} (K : PySem.W.Frag) (pa : PlainAttrs T) (slot : Slot T name id) (hty : typeOf (.builtin id) = pure (.type "method_descriptor")) (hm : MtR X id r) (ho : PE X o to) (ha : PA X (e :: es) t)
    (h : X.K = K := by rfl) (hbase : attributeBase o name X.env (eval o X.env) = eval o X.env := by rfl)
    (few : ((backTo cpos (starEach (e :: es) X.env)).all (fun x => !x.1) && (backToKw cpos (keywordEach [] X.env)).all (fun x => x.1.isSome) && decide ((e :: es).length + ([] : List Keyword).length + (if ([] : List Keyword).isEmpty then 0 else 1) < 30)) = true := by rfl)
    (line : (apos.endLine == cpos.line) = true := by rfl) (hs : starEach (e :: es) X.env = (false, eval e X.env) :: starEach es X.env := by rfl) (plain : (backTo cpos (starEach es X.env)).any (·.1) = false := by rfl) :
    PE X (.Call (.Attribute o name apos) (e :: es) [] cpos) (tBM K T r to t) := by
  subst h
  exact pe_bm pa slot hty hm ho ha hbase few line hs plain
end WK
/-! ## texts of signs -/
namespace WK
open PySem PySem.Spec PyProof.Rows L2
/-- the text of these signs -/
def sg (l : List Nat) : Str := ⟨l.toArray⟩
theorem sg_cps (l : List Nat) : (sg l).cps.toList = l := by simp [sg]
theorem sg_len (l : List Nat) : (sg l).length = l.length := by
  show l.toArray.size = _
  simp
theorem sg_app (a b : List Nat) : sg a ++ sg b = sg (a ++ b) := by
  show (⟨a.toArray ++ b.toArray⟩ : Str) = ⟨(a ++ b).toArray⟩
  simp
theorem sg_inj {a b : List Nat} : sg a = sg b ↔ a = b := by
  constructor
  · intro h
    have := congrArg (fun s : Str => s.cps.toList) h
    rw [sg_cps, sg_cps] at this
    exact this
  · intro h
    rw [h]
/-- one sign counted -/
theorem occ_run (x : Str) (c limit : Nat) : ∀ (l : List Nat) (st : Array Nat × Nat), (∀ i ∈ l, st.2 ≤ i) → l.Pairwise (· < ·) →
    (forIn l st (PySem.StrLaws.occBody x ⟨#[c]⟩ x.length limit)).run.fst.toList = st.1.toList ++ (l.filter fun i => x.cps.toList[i]? == some c).take (limit - st.1.size)
  | [], st, _, _ => by simp
  | i :: l, st, hf, hp => by
    rw [List.forIn_cons]
    have hi := hf i List.mem_cons_self
    obtain ⟨hp1, hp2⟩ := List.pairwise_cons.mp hp
    have key := PySem.StrLaws.subAt_one x c i
    unfold PySem.StrLaws.occBody
    by_cases z : x.cps.toList[i]? = some c
    · have kz := key.mpr z
      by_cases y : st.1.size < limit
      · rw [if_pos ⟨⟨⟨y, hi⟩, kz.1⟩, kz.2⟩]
        have ih := occ_run x c limit l (st.1.push i, i + (⟨#[c]⟩ : Str).length) (fun j hj => hp1 j hj) hp2
        have e := ih
        show (forIn l (st.1.push i, i + (⟨#[c]⟩ : Str).length) (PySem.StrLaws.occBody x ⟨#[c]⟩ x.length limit)).run.fst.toList = _
        rw [e, List.filter_cons, if_pos (by rw [z]; exact beq_self_eq_true _)]
        have hl : limit - st.1.size = (limit - (st.1.push i).size) + 1 := by
          rw [Array.size_push]
          omega
        rw [hl, List.take_succ_cons, Array.toList_push, List.append_assoc]
        rfl
      · rw [if_neg fun w => y w.1.1.1]
        have ih := occ_run x c limit l st (fun j hj => hf j (List.mem_cons_of_mem _ hj)) hp2
        show (forIn l st (PySem.StrLaws.occBody x ⟨#[c]⟩ x.length limit)).run.fst.toList = _
        rw [ih, show limit - st.1.size = 0 by omega, List.take_zero, List.take_zero]
    · rw [if_neg fun w => z (key.mp ⟨w.1.2, w.2⟩)]
      have ih := occ_run x c limit l st (fun j hj => hf j (List.mem_cons_of_mem _ hj)) hp2
      show (forIn l st (PySem.StrLaws.occBody x ⟨#[c]⟩ x.length limit)).run.fst.toList = _
      rw [ih, List.filter_cons, if_neg (by rw [beq_iff_eq]; exact z)]
theorem occ_sign (x : Str) (c limit : Nat) : Builtin.Str.occurrences x ⟨#[c]⟩ 0 x.length limit = ((List.range (x.length + 1)).filter fun i => x.cps.toList[i]? == some c).take limit := by
  rw [PySem.StrLaws.occ_eq, occ_run x c limit _ _ (fun _ _ => Nat.zero_le _) (by simpa using List.pairwise_lt_range' (s := 0) (n := x.length + 1))]
  simp [List.range_eq_range']
theorem filter_count (l : List Nat) (c : Nat) : ∀ k : Nat, ((List.range k).filter fun i => l[i]? == some c).length = (l.take k).count c
  | 0 => rfl
  | k + 1 => by
    rw [List.range_succ, List.filter_append, List.length_append, filter_count l c k, List.take_add_one, List.count_append]
    congr 1
    cases h : l[k]? with
    | none => simp [h]
    | some d =>
      by_cases e : d = c
      · simp [h, e]
      · simp [h, e]
theorem count_sign (l : List Nat) (c : Nat) : Txt.count (sg l) ⟨#[c]⟩ = (l.count c : Nat) := by
  unfold Txt.count
  rw [occ_sign, List.take_of_length_le, filter_count, sg_cps, sg_len, List.take_of_length_le (by omega)]
  refine Nat.le_trans (List.length_filter_le _ _) ?_
  rw [List.length_range]
  exact Nat.le_refl _
/-! ### a text some times -/
def rMulS : V → V → Hp → VK → Prop := fun x y H Q => ∃ z n, x = .str z ∧ y = .int n ∧ MulOk z n ∧ Q (.str (Txt.mul z n)) H
theorem op_mul_str {X : Cx} : OpR X (binaryOp .Mult) rMulS := by
  rintro pins s σ H x y v u Q I rx ry ⟨z, n, rfl, rfl, hm, q⟩
  obtain ⟨t, rfl⟩ := rx
  obtain ⟨t2, rfl⟩ := ry
  exact PySem.SB.mul hm fun t3 k => ⟨.str (Txt.mul z n), H, I.tok k, ⟨t3, rfl⟩, q⟩
theorem fold_rep (c : Nat) : ∀ (n : Nat) (a : Array Nat), ((List.replicate n #[c]).foldl (· ++ ·) a).toList = a.toList ++ List.replicate n c
  | 0, a => by simp
  | n + 1, a => by
    rw [List.replicate_succ, List.foldl_cons, fold_rep c n]
    simp [List.replicate_succ]
theorem mul_sign {c n : Nat} (h : 1 ≤ n) : Txt.mul ⟨#[c]⟩ (n : Int) = sg (List.replicate n c) := by
  unfold Txt.mul
  rw [if_neg (by omega)]
  by_cases e : n = 1
  · rw [e]
    rfl
  · rw [if_neg (by
      have : ((n : Int) == 1) = false := by rw [beq_eq_false_iff_ne]; omega
      rw [this]
      show ¬ (false || decide ((1 : Nat) = 0)) = true
      decide)]
    show (⟨_⟩ : Str) = ⟨_⟩
    congr 1
    apply Array.toList_inj.mp
    rw [Int.toNat_natCast, fold_rep]
    simp
theorem mul_sign_ok {c n : Nat} (h2 : n ≤ 1000) : MulOk ⟨#[c]⟩ (n : Int) := by
  refine ⟨?_, fun _ _ => ?_, fun _ _ => ?_⟩
  · rw [Bool.or_eq_false_iff]
    exact ⟨decide_eq_false (by omega), decide_eq_false (by omega)⟩
  · intro z
    have z2 : (1 : Int) > (2 ^ 63 - 1) / n := z
    rcases Nat.eq_zero_or_pos n with e | e
    · omega
    · have := (Int.ediv_lt_iff_lt_mul (a := 2 ^ 63 - 1) (b := 1) (c := (n : Int)) (by omega)).mp z2
      omega
  · unfold Builtin.Str.tooLong
    rw [Int.toNat_natCast]
    show decide _ = false
    apply decide_eq_false
    have : (⟨#[c]⟩ : Str).length = 1 := rfl
    rw [this, sizeLine_eq]
    omega
end WK
namespace WK
open PySem PySem.Spec PyProof.Rows L2
theorem at_nat {α : Type} {xs : List α} {j : Nat} {v : α} {z : Int} (e : z = (j : Int)) (h : xs[j]? = some v) : atI xs z = some v := by
  obtain ⟨hl, _⟩ := List.getElem?_eq_some_iff.mp h
  unfold atI ixN
  rw [e, if_pos (by omega), if_pos (by omega), Int.toNat_natCast]
  exact h
theorem cut_sg (a b c : List Nat) {i j : Int} (hi : i = (a.length : Int)) (hj : j = ((a.length + b.length : Nat) : Int)) : cutS (sg (a ++ b ++ c)) (some i) (some j) = sg b := by
  subst hi hj
  unfold cutS
  rw [HT.sIx_nat, HT.sIx_nat, sg_len, sg_cps]
  have l : (a ++ b ++ c).length = a.length + b.length + c.length := by rw [List.length_append, List.length_append]
  rw [l, show min a.length (a.length + b.length + c.length) = a.length by omega, show min (a.length + b.length) (a.length + b.length + c.length) = a.length + b.length by omega]
  rw [List.append_assoc, List.drop_left, show a.length + b.length - a.length = b.length by omega, List.take_left]
  rfl
theorem glue_sg : ∀ (ls : List (List Nat)), Txt.join "" (ls.map sg) = sg ls.flatten := by
  have h : ∀ (ls : List (List Nat)) (a : Array Nat), ((ls.map sg).foldl (fun acc p => acc ++ ("" : Str).cps ++ p.cps) a).toList = a.toList ++ ls.flatten := by
    intro ls
    induction ls with
    | nil =>
      intro a
      simp
    | cons l ls ih =>
      intro a
      rw [List.map_cons, List.foldl_cons, ih]
      have e : ("" : Str).cps = #[] := rfl
      rw [e]
      simp [sg]
  intro ls
  cases ls with
  | nil => rfl
  | cons l ls =>
    show (⟨_⟩ : Str) = ⟨_⟩
    congr 1
    apply Array.toList_inj.mp
    have := h ls (sg l).cps
    simp only [List.map_cons, List.drop_succ_cons, List.drop_zero, List.headD_cons]
    rw [this, sg_cps]
    simp
/-- signs -/
theorem sg1 (c : Nat) : (⟨#[c]⟩ : Str) = sg [c] := rfl
def IsDig (d : Nat) : Prop := 48 ≤ d ∧ d ≤ 57
theorem dig_iff (c : Nat) : c ∈ ("0123456789" : Str).cps.toList ↔ IsDig c := by
  have e : ("0123456789" : Str).cps.toList = [48, 49, 50, 51, 52, 53, 54, 55, 56, 57] := by decide +kernel
  rw [e]
  unfold IsDig
  simp only [List.mem_cons, List.not_mem_nil, or_false]
  omega
theorem abcd_iff (c : Nat) : c ∈ ("abcd" : Str).cps.toList ↔ 97 ≤ c ∧ c ≤ 100 := by
  have e : ("abcd" : Str).cps.toList = [97, 98, 99, 100] := by decide +kernel
  rw [e]
  simp only [List.mem_cons, List.not_mem_nil, or_false]
  omega
theorem sign_eq {c d : Nat} : ((⟨#[c]⟩ : Str) = ⟨#[d]⟩) ↔ c = d := by
  constructor
  · intro h
    have := congrArg (fun s : Str => s.cps.toList) h
    simpa using this
  · intro h
    rw [h]
end WK
namespace WK
open PySem PySem.Spec PyProof.Rows L2 RZ
/-! ### zip of two lists, of two tuples -/
theorem piZip {X : Cx} (K : PySem.W.Frag) {e e2 : Expr} {ta : TA} {p pos tpos : Pos} {elts : List Expr} {kk : Nat} (hm : X.mg "zip" = none) (ha : PA X [e, e2] ta) (h : X.K = K := by rfl) (hg : Gl X "zip" := by rfl)
    (h1 : starEach [e, e2] X.env = (false, eval e X.env) :: starEach [e2] X.env := by rfl) (h2 : (backTo pos (starEach [e2] X.env)).any (·.1) = false := by rfl) : PI X (.Tuple elts kk tpos) (.Call (.Name "zip" p) [e, e2] [] pos) (iZipA K ta) := by
  subst h
  exact pi_zipA hg hm ha h1 h2
theorem walk_zipT {K : PySem.W.Frag} {a b : Addr} {xs ys : List V} {n : Nat} (hn : n = min xs.length ys.length) : Walk (ItzT K a b) n (fun H => SqT K H a xs ∧ SqT K H b ys) (YPair (fun i => xs[i]?) (fun i => ys[i]?)) := by
  subst hn
  refine ⟨fun i _ hi q => ⟨xs, ys, xs[i]'(by omega), ys[i]'(by omega), q.1, q.2, List.getElem?_eq_getElem _, List.getElem?_eq_getElem _⟩, fun _ q => ⟨xs, ys, q.1, q.2, by omega⟩, fun i H v H' _ q y => ?_⟩
  obtain ⟨T, x, z, e, nT, eH, g1, g2⟩ := y
  exact ⟨T, x, z, e, nT, eH, g1 xs q.1, g2 ys q.2⟩
end WK
namespace WK
open PySem PySem.Spec PyProof.Rows L2 RZ
/-- zip of two tuples, of two lists alone -/
def iZipT (K : PySem.W.Frag) (ta : TA) : TI := fun σ H R => ta σ H fun vs H1 => ∃ a b xs ys, vs = [.ref a, .ref b] ∧ SqT K H1 a xs ∧ SqT K H1 b ys ∧ R (ItzT K a b) H1
def iZipL (K : PySem.W.Frag) (ta : TA) : TI := fun σ H R => ta σ H fun vs H1 => ∃ a b xs ys, vs = [.ref a, .ref b] ∧ SqL K H1 a xs ∧ SqL K H1 b ys ∧ R (Itz K a b) H1
theorem pa_wk {X : Cx} {es : List Expr} {t : TA} (h : PA X es t) : PA X es (fun σ H Q => ∃ P, t σ H P ∧ ∀ vs H', P vs H' → Q vs H') := by
  refine ⟨fun pos pins s σ H Q I hh => ?_⟩
  obtain ⟨P, hp, w⟩ := hh
  exact thn (h.run pos pins s σ H P I hp) fun us s1 ⟨vs, H1, I1, r, q⟩ => ⟨vs, H1, I1, r, w _ _ q⟩
section
variable {X : Cx} (K : PySem.W.Frag) {e e2 : Expr} {ta : TA} {p pos tpos : Pos} {elts : List Expr} {kk : Nat}
theorem piZipT (hm : X.mg "zip" = none) (ha : PA X [e, e2] ta) (h : X.K = K := by rfl) (hg : Gl X "zip" := by rfl)
    (h1 : starEach [e, e2] X.env = (false, eval e X.env) :: starEach [e2] X.env := by rfl) (h2 : (backTo pos (starEach [e2] X.env)).any (·.1) = false := by rfl) : PI X (.Tuple elts kk tpos) (.Call (.Name "zip" p) [e, e2] [] pos) (iZipT K ta) := by
  have q := piZip (p := p) (elts := elts) (kk := kk) (tpos := tpos) K hm (pa_wk ha) h hg h1 h2
  refine ⟨fun pins s σ H R I hh => q.run pins s σ H R I ?_⟩
  refine ⟨_, hh, fun vs H' w => ?_⟩
  obtain ⟨a, b, xs, ys, e1, e2, e3, e4⟩ := w
  exact ⟨a, b, xs, ys, e1, .inr ⟨e2, e3, e4⟩⟩
theorem piZipL (hm : X.mg "zip" = none) (ha : PA X [e, e2] ta) (h : X.K = K := by rfl) (hg : Gl X "zip" := by rfl)
    (h1 : starEach [e, e2] X.env = (false, eval e X.env) :: starEach [e2] X.env := by rfl) (h2 : (backTo pos (starEach [e2] X.env)).any (·.1) = false := by rfl) : PI X (.Tuple elts kk tpos) (.Call (.Name "zip" p) [e, e2] [] pos) (iZipL K ta) := by
  have q := piZip (p := p) (elts := elts) (kk := kk) (tpos := tpos) K hm (pa_wk ha) h hg h1 h2
  refine ⟨fun pins s σ H R I hh => q.run pins s σ H R I ?_⟩
  refine ⟨_, hh, fun vs H' w => ?_⟩
  obtain ⟨a, b, xs, ys, e1, e2, e3, e4⟩ := w
  exact ⟨a, b, xs, ys, e1, .inl ⟨e2, e3, e4⟩⟩
end
end WK
/-! ## rows of refs to tuples that stand still -/
namespace WK
open PySem PySem.Spec PyProof.Rows L2
def TupsAt (H : Hp) (xs : List V) (ts : List (List V)) : Prop := xs.length = ts.length ∧ ∀ (j : Nat) (x : V) (t : List V), xs[j]? = some x → ts[j]? = some t → ∃ a, x = .ref a ∧ H a = some (.tup t)
theorem TupsAt.nil {H : Hp} : TupsAt H [] [] := ⟨rfl, fun _ _ _ h => by cases h⟩
theorem TupsAt.same {H H' : Hp} {xs : List V} {ts : List (List V)} (h : TupsAt H xs ts) (s : Same H H') : TupsAt H' xs ts := ⟨h.1, fun j x t hx ht => by
  obtain ⟨a, e, ha⟩ := h.2 j x t hx ht
  exact ⟨a, e, s _ _ ha⟩⟩
theorem TupsAt.but {H H' : Hp} {xs zs : List V} {ts : List (List V)} {D : Addr} (h : TupsAt H xs ts) (b : But D H H') (hD : H D = some (.lst zs)) : TupsAt H' xs ts := ⟨h.1, fun j x t hx ht => by
  obtain ⟨a, e, ha⟩ := h.2 j x t hx ht
  refine ⟨a, e, b _ _ (fun z => ?_) ha⟩
  rw [z, hD] at ha
  cases ha⟩
theorem TupsAt.put {H : Hp} {xs zs : List V} {ts : List (List V)} {D : Addr} {o : HO} (h : TupsAt H xs ts) (hD : H D = some (.lst zs)) : TupsAt (upd H D o) xs ts := h.but (But.refl.at) hD
theorem TupsAt.app {H : Hp} {xs ys : List V} {ts us : List (List V)} (h : TupsAt H xs ts) (g : TupsAt H ys us) : TupsAt H (xs ++ ys) (ts ++ us) := by
  refine ⟨by rw [List.length_append, List.length_append, h.1, g.1], fun j x t hx ht => ?_⟩
  by_cases hj : j < xs.length
  · rw [List.getElem?_append_left hj] at hx
    rw [List.getElem?_append_left (by rw [← h.1]; exact hj)] at ht
    exact h.2 j x t hx ht
  · rw [List.getElem?_append_right (by omega)] at hx
    rw [List.getElem?_append_right (by rw [← h.1]; omega), ← h.1] at ht
    exact g.2 _ x t hx ht
theorem TupsAt.one {H : Hp} {a : Addr} {t : List V} (h : H a = some (.tup t)) : TupsAt H [.ref a] [t] := ⟨rfl, fun j x u hx hu => by
  cases j with
  | zero =>
    cases hx
    cases hu
    exact ⟨a, rfl, h⟩
  | succ j => cases hx⟩
theorem TupsAt.snoc {H : Hp} {xs : List V} {ts : List (List V)} {a : Addr} {t : List V} (h : TupsAt H xs ts) (ha : H a = some (.tup t)) : TupsAt H (xs ++ [.ref a]) (ts ++ [t]) := h.app (.one ha)
theorem TupsAt.get {H : Hp} {xs : List V} {ts : List (List V)} {j : Nat} {x : V} (h : TupsAt H xs ts) (hx : xs[j]? = some x) : ∃ a t, x = .ref a ∧ ts[j]? = some t ∧ H a = some (.tup t) := by
  obtain ⟨hl, _⟩ := List.getElem?_eq_some_iff.mp hx
  rw [h.1] at hl
  obtain ⟨a, e, ha⟩ := h.2 j x _ hx (List.getElem?_eq_getElem hl)
  exact ⟨a, _, e, List.getElem?_eq_getElem hl, ha⟩
theorem _root_.L2.Same.keepT {H H' : Hp} {p : Addr} {t : List V} (x : Same H H') (h : H p = some (.tup t)) : H' p = some (.tup t) := x _ _ h
theorem But.keepT {D p : Addr} {H H' : Hp} {t zs : List V} (x : But D H H') (hD : H D = some (.lst zs)) (h : H p = some (.tup t)) : H' p = some (.tup t) := x _ _ (fun z => by rw [z, hD] at h; cases h) h
theorem int_list_ext {xs : List V} {ns : List Int} (h1 : xs.length = ns.length) (h2 : ∀ j x, xs[j]? = some x → x = V.int (ns.getD j 0)) : xs = ns.map V.int := by
  apply List.ext_getElem?
  intro j
  by_cases hj : j < ns.length
  · rw [List.getElem?_map, List.getElem?_eq_getElem hj, List.getElem?_eq_getElem (by omega), h2 j _ (List.getElem?_eq_getElem (by omega)), List.getD_eq_getElem?_getD, List.getElem?_eq_getElem hj]
    rfl
  · rw [List.getElem?_eq_none (by omega), List.getElem?_eq_none (by rw [List.length_map]; omega)]
theorem ints_at {ns : List Int} {k : Nat} (h : k < ns.length) : (ns.map V.int)[k]? = some (V.int (ns.getD k 0)) := by
  rw [List.getElem?_map, List.getElem?_eq_getElem h, List.getD_eq_getElem?_getD, List.getElem?_eq_getElem h]
  rfl
end WK
namespace WK
open PySem PySem.Spec PyProof.Rows L2
theorem But.mine {a p : Addr} {H H' : Hp} {o : HO} (x : But a H H') (np : H p = none) : But a H (upd H' p o) := fun b u n h => by
  rw [upd_ne (ne_of_none h np)]
  exact x b u n h
theorem lst_ne {H : Hp} {p a : Addr} {xs : List V} {o : HO} (np : H p = none) (h : H a = some o) : p ≠ a := fun e => by
  rw [e, h] at np
  cases np
end WK
namespace WK
open PySem PySem.Spec PyProof.Rows L2
theorem sqT_new {K : PySem.W.Frag} {H : Hp} {p t : Addr} {xs : List V} {o : HO} (h : SqT K H t xs) (np : H p = none) : SqT K (upd H p o) t xs := (same_new np).sqT h
end WK
namespace WK
open PySem PySem.Spec PyProof.Rows L2
theorem atI_ints {ns : List Int} {c : Int} (h0 : 0 ≤ c) (h1 : c < ns.length) : ∃ v, v ∈ ns ∧ atI (ns.map V.int) c = some (V.int v) := by
  have hk : c.toNat < ns.length := by omega
  refine ⟨ns[c.toNat], List.getElem_mem hk, ?_⟩
  refine at_nat (j := c.toNat) (by omega) ?_
  rw [List.getElem?_map, List.getElem?_eq_getElem hk]
  rfl
theorem getD_snoc_lt {cs : List Int} {v : Int} {k : Nat} (h : k < cs.length) : (cs ++ [v]).getD k 0 = cs.getD k 0 := by
  rw [List.getD_eq_getElem?_getD, List.getD_eq_getElem?_getD, List.getElem?_append_left h]
theorem getD_snoc_eq {cs : List Int} {v : Int} {k : Nat} (h : k = cs.length) : (cs ++ [v]).getD k 0 = v := by
  rw [List.getD_eq_getElem?_getD, h, List.getElem?_append_right (Nat.le_refl _), Nat.sub_self]
  rfl
end WK
/-! ## the sum of a tuple -/
namespace WK
open PySem PySem.Spec PyProof.Rows L2
def rSumT (K : PySem.W.Frag) : List V → Hp → VK → Prop := fun vs H Q => ∃ (a : Addr) (ns : List Int), vs = [V.ref a] ∧ SqT K H a (ns.map V.int) ∧ Q (.int ns.sum) H
theorem sumT {X : Cx} (K : PySem.W.Frag) (hc : X.calm = true := by rfl) (h : X.K = K := by rfl) : CallR X (.builtin "sum") (rSumT K) := by
  subst h
  intro pins s σ H vs us Q I r h
  obtain ⟨a, ns, rfl, hs, q⟩ := h
  obtain ⟨its, rv, hl, _⟩ := I.tuple hs
  rw [Vals.ref1 r]
  obtain ⟨xs, hx⟩ := rv.ints.allInts.items
  have hn : numsOf its.toArray.toList = ns := by rw [show its.toArray.toList = its from rfl, rv.ints.numsOf]
  rw [hx] at hl hn
  rw [nums_intItems] at hn
  refine PySem.W.ktm_sumG (I.ok.hd hc) hl fun h' tk t' hk => ?_
  refine ⟨.int _, H, I.kept hk, ⟨t', ?_⟩, q⟩
  rw [preSum_eq, List.take_of_length_le (by simp), hn]
theorem cxK {C : CXT} {P : Program} {w : World} {K : PySem.W.Frag} {mg : Str → Option Value} {base : Heap} {N : List Str} {q : Str} {sc : Scope} {f : Addr} {cd : Value} {A : Around} {outer : List Env} {s : Shared} {H : Hp} {E : XK} : (cxOf C P w K mg base N q sc f cd A outer s H E).K = K := rfl
theorem cxnK {C : CXT} {P : Program} {w : World} {K : PySem.W.Frag} {mg : Str → Option Value} {base : Heap} {N : List Str} {q : Str} {sc : Scope} {f : Addr} {cd : Value} {A : Around} {outer : List Env} {s : Shared} {H : Hp} {E : XK} : (cxOf C P w K mg base N q sc f cd A outer s H E).nox.K = K := rfl
end WK
/-! ## weaves, keys, cells: what needs no program -/
namespace WK
open PySem PySem.Spec PyProof.Rows L2
section
variable {K : PySem.W.Frag}
abbrev Br3 (o : HO) (n : Nat) : Prop := ∃ x y z : Int, o = .lst [.int x, .int y, .int z] ∧ 0 ≤ x ∧ 0 ≤ y ∧ y < 2 ^ 160 ∧ 0 ≤ z ∧ z ≤ (n : Int)
def Br (a : Addr) (n : Nat) (H : Hp) : Prop := ∃ o, H a = some o ∧ Br3 o n
theorem Br.mono {a : Addr} {n m : Nat} {H : Hp} (h : Br a n H) (l : n ≤ m) : Br a m H := by
  obtain ⟨o, h1, x, y, z, e, h2, h3, h4, h5, h6⟩ := h
  exact ⟨o, h1, x, y, z, e, h2, h3, h4, h5, by omega⟩
theorem Br3.mono {o : HO} {n m : Nat} (h : Br3 o n) (l : n ≤ m) : Br3 o m := by
  obtain ⟨x, y, z, e, h2, h3, h4, h5, h6⟩ := h
  exact ⟨x, y, z, e, h2, h3, h4, h5, by omega⟩
theorem Br.ne {K : PySem.W.Frag} {a : Addr} {n : Nat} {H : Hp} (h : Br a n H) : ∃ zs, H a = some (.lst zs) := by
  obtain ⟨o, h1, x, y, z, e, _⟩ := h
  exact ⟨_, by rw [h1, e]⟩
theorem Br.put {a : Addr} {n : Nat} {H : Hp} {o : HO} (h : Br3 o n) : Br a n (upd H a o) := ⟨o, upd_same, h⟩
theorem Br.new {a p : Addr} {n : Nat} {H : Hp} {o : HO} (h : Br a n H) (np : H p = none) : Br a n (upd H p o) := by
  obtain ⟨u, h1, h2⟩ := h
  exact ⟨u, upd_new np h1, h2⟩
theorem Br.same {a : Addr} {n : Nat} {H H' : Hp} (h : Br a n H) (s : Same H H') : Br a n H' := by
  obtain ⟨o, h1, h2⟩ := h
  exact ⟨o, s _ _ h1, h2⟩
theorem Br.apart {a p : Addr} {n : Nat} {H : Hp} (h : Br a n H) (np : H p = none) : p ≠ a := fun e => by
  obtain ⟨o, h, _⟩ := h
  rw [← e, np] at h
  cases h
theorem none_of {H : Hp} {p q : Addr} {o : HO} (h : upd H p o q = none) : H q = none := by
  rw [← h, upd_ne]
  intro z
  rw [z, upd_same] at h
  cases h
theorem lt1000 {m : Int} {k : Nat} (h : m < 2 ^ k) (hk : k ≤ 1000) : m < 2 ^ (1000 : Nat) := lt_pow h hk
theorem small1000' {m : Int} (h : m < 1000000000000000000000000000000) : m < 2 ^ (1000 : Nat) := lt1000 (k := 100) (Int.lt_trans h (by decide +kernel)) (by decide)

abbrev Item : Type := Nat × Nat × List Nat
def fx (its : List Item) : List Nat := its.flatMap fun it => it.1 :: it.2.2
def lx (its : List Item) : List Nat := its.flatMap fun it => List.replicate it.2.1 it.1
structure DsOk (t : Nat) (ds : List Nat) : Prop where
  dig : ∀ d ∈ ds, IsDig d
  one : ds = [] → t = 1
  len : ds.length ≤ 3
  num : ds ≠ [] → PySem.intText? (sg ds) = some (t : Int) ∧ 2 ≤ t ∧ t ≤ 240 ∧ ds[0]? ≠ some 48
theorem DsOk.most {t : Nat} {ds : List Nat} (h : DsOk t ds) : 1 ≤ t ∧ t ≤ 240 := by
  by_cases e : ds = []
  · rw [h.one e]
    exact ⟨by decide, by decide⟩
  · obtain ⟨_, a, b, _⟩ := h.num e
    exact ⟨by omega, b⟩
def ItOk (it : Item) : Prop := 97 ≤ it.1 ∧ it.1 ≤ 100 ∧ DsOk it.2.1 it.2.2
theorem fx_cons (it : Item) (its : List Item) : fx (it :: its) = it.1 :: (it.2.2 ++ fx its) := rfl
def PartsAt (H : Hp) (xs : List V) (its : List Item) : Prop := xs.length = its.length ∧ ∀ (j : Nat) (x : V) (it : Item), xs[j]? = some x → its[j]? = some it → ∃ a, x = .ref a ∧ H a = some (.tup [.str (sg [it.1]), .int (it.2.1 : Int)])
theorem PartsAt.same {H H' : Hp} {xs : List V} {its : List Item} (h : PartsAt H xs its) (s : Same H H') : PartsAt H' xs its := by
  refine ⟨h.1, fun j x it hx hi => ?_⟩
  obtain ⟨a, e, ha⟩ := h.2 j x it hx hi
  exact ⟨a, e, s _ _ ha⟩
theorem PartsAt.put {H : Hp} {xs : List V} {its : List Item} {D : Addr} {zs : List V} {o : HO} (h : PartsAt H xs its) (hD : H D = some (.lst zs)) : PartsAt (upd H D o) xs its := by
  refine ⟨h.1, fun j x it hx hi => ?_⟩
  obtain ⟨a, e, ha⟩ := h.2 j x it hx hi
  refine ⟨a, e, upd_at (fun z => ?_) ha⟩
  rw [z, hD] at ha
  cases ha
theorem PartsAt.snoc {H : Hp} {xs : List V} {its : List Item} {a : Addr} {it : Item} (h : PartsAt H xs its) (ha : H a = some (.tup [.str (sg [it.1]), .int (it.2.1 : Int)])) : PartsAt H (xs ++ [.ref a]) (its ++ [it]) := by
  refine ⟨by rw [List.length_append, List.length_append, h.1]; rfl, fun j x i2 hx hi => ?_⟩
  by_cases hj : j < xs.length
  · rw [List.getElem?_append_left hj] at hx
    rw [List.getElem?_append_left (by rw [← h.1]; exact hj)] at hi
    exact h.2 j x i2 hx hi
  · rw [List.getElem?_append_right (by omega)] at hx
    rw [List.getElem?_append_right (by rw [← h.1]; omega), ← h.1] at hi
    have hj0 : j - xs.length = 0 := by
      have := (List.getElem?_eq_some_iff.mp hx).1
      simp only [List.length_singleton] at this
      omega
    rw [hj0] at hx hi
    cases hx
    cases hi
    exact ⟨a, rfl, ha⟩
theorem fx_take (its : List Item) (i : Nat) (h : i < its.length) : fx its = fx (its.take i) ++ (its[i].1 :: (its[i].2.2 ++ fx (its.drop (i + 1)))) := by
  have e : its = its.take i ++ (its[i] :: its.drop (i + 1)) := by
    rw [← List.drop_eq_getElem_cons h, List.take_append_drop]
  conv => lhs; rw [e]
  unfold fx
  rw [List.flatMap_append, List.flatMap_cons]
  rfl
theorem fx_step (its : List Item) (i : Nat) (h : i < its.length) : (fx (its.take (i + 1))).length = (fx (its.take i)).length + 1 + its[i].2.2.length := by
  rw [List.take_succ_eq_append_getElem h]
  unfold fx
  rw [List.flatMap_append, List.length_append]
  simp
  omega
theorem fx_head (its : List Item) (hi : ∀ it ∈ its, ItOk it) (d : Nat) (h : (fx its)[0]? = some d) : ¬ IsDig d := by
  cases its with
  | nil => cases h
  | cons it its =>
    have e : it.1 = d := Option.some.inj h
    have := hi it List.mem_cons_self
    unfold ItOk at this
    unfold IsDig
    omega
theorem fx_ge : ∀ its : List Item, its.length ≤ (fx its).length
  | [] => Nat.zero_le _
  | it :: its => by
    have := fx_ge its
    rw [fx_cons, List.length_cons, List.length_cons, List.length_append]
    omega
theorem lx_take (its : List Item) (i : Nat) (h : i < its.length) : lx (its.take (i + 1)) = lx (its.take i) ++ List.replicate its[i].2.1 its[i].1 := by
  rw [List.take_succ_eq_append_getElem h]
  unfold lx
  rw [List.flatMap_append]
  simp
theorem lx_ge : ∀ its : List Item, (∀ it ∈ its, ItOk it) → its.length ≤ (lx its).length
  | [], _ => Nat.zero_le _
  | it :: its, h => by
    have := lx_ge its fun x hx => h x (List.mem_cons_of_mem _ hx)
    have h1 := (h it List.mem_cons_self).2.2.most
    show _ ≤ (List.replicate it.2.1 it.1 ++ lx its).length
    rw [List.length_cons, List.length_append, List.length_replicate]
    omega
theorem shaped_all : ∀ ns : List Int, PyData.canLayAll0 (ns.map .int) = true ∧ PyData.depthAll (ns.map .int) = 0
  | [] => ⟨rfl, rfl⟩
  | n :: ns => by
    obtain ⟨a, b⟩ := shaped_all ns
    exact ⟨by simp only [List.map_cons, PyData.canLayAll0, PyData.canLay0, a, Bool.and_self], by simp only [List.map_cons, PyData.depthAll, PyData.depth, b, Nat.max_self]⟩
theorem shaped_ints (ns : List Int) : SeqAt.shaped (.list (ns.map .int)) = true := by
  obtain ⟨a, b⟩ := shaped_all ns
  simp only [SeqAt.shaped, PyData.canLay0, PyData.depth, a, b]
  decide
theorem flat_ints (ns : List Int) : (ns.map V.int).all flatV = true := by
  rw [List.all_eq_true]
  intro x hx
  obtain ⟨i, _, rfl⟩ := List.mem_map.mp hx
  rfl
theorem at_last {ns : List Int} {v : Int} (h : 0 < ns.length) (e : ns[ns.length - 1]? = some v) : atI (ns.map V.int) (-1) = some (V.int v) := by
  unfold atI ixN
  rw [List.length_map, if_neg (by decide), if_pos (by omega)]
  show (ns.map V.int)[(-1 + (ns.length : Int)).toNat]? = _
  rw [show (-1 + (ns.length : Int)).toNat = ns.length - 1 by omega, List.getElem?_map, e]
  rfl
/-- the numbers of the signs of each axis -/
def cnts (l : List Nat) (n : Nat) : List Int := (List.range n).map fun k => (l.count (97 + k) : Int)
theorem cnts_at {l : List Nat} {n k : Nat} (h : k < n) : (cnts l n)[k]? = some (l.count (97 + k) : Int) := by
  unfold cnts
  rw [List.getElem?_map, List.getElem?_range h]
  rfl
theorem cnts_cut {l : List Nat} {m : Nat} (h : 1 ≤ m) : HO.lst (cutV ((cnts l m).map V.int) none (some (-1))) = HO.lst ((cnts l (m - 1)).map V.int) := by
  have hl : ((cnts l m).map V.int).length = m := by
    unfold cnts
    rw [List.length_map, List.length_map, List.length_range]
  unfold cutV
  rw [hl, HT.sIx_none]
  have e : HT.sIx m m (some (-1)) = m - 1 := by
    show (if (-1 : Int) < 0 then ((-1 : Int) + (m : Int)).toNat else min (-1 : Int).toNat m) = m - 1
    rw [if_pos (by decide)]
    omega
  rw [e, List.drop_zero, Nat.sub_zero]
  congr 1
  unfold cnts
  rw [← List.map_take, ← List.map_take, List.take_range, Nat.min_eq_left (by omega)]
theorem cnt_step (n : Nat) : ∀ l : List Nat, (l.filter fun c => decide (97 ≤ c ∧ c < 97 + (n + 1))).length = (l.filter fun c => decide (97 ≤ c ∧ c < 97 + n)).length + l.count (97 + n)
  | [] => rfl
  | c :: l => by
    have ih := cnt_step n l
    rw [List.filter_cons, List.filter_cons, List.count_cons]
    by_cases h : c = 97 + n
    · rw [if_pos (decide_eq_true (by omega)), if_neg (by rw [decide_eq_true_eq]; omega), if_pos (by rw [h]; exact beq_self_eq_true _), List.length_cons, ih]
      omega
    · rw [if_neg (show ¬ (c == 97 + n) = true by rw [beq_iff_eq]; exact h)]
      by_cases g : 97 ≤ c ∧ c < 97 + n
      · rw [if_pos (decide_eq_true (by omega)), if_pos (decide_eq_true g), List.length_cons, List.length_cons, ih]
        omega
      · rw [if_neg (by rw [decide_eq_true_eq]; omega), if_neg (by rw [decide_eq_true_eq]; exact g), ih]
        rfl
theorem cnts_succ (l : List Nat) (n : Nat) : cnts l (n + 1) = cnts l n ++ [(l.count (97 + n) : Int)] := by
  unfold cnts
  rw [List.range_succ, List.map_append]
  rfl
theorem cnts_sum (l : List Nat) : ∀ n : Nat, (cnts l n).sum = ((l.filter fun c => decide (97 ≤ c ∧ c < 97 + n)).length : Int)
  | 0 => by
    have : (l.filter fun c => decide (97 ≤ c ∧ c < 97 + 0)) = [] := by
      rw [List.filter_eq_nil_iff]
      intro c _
      rw [decide_eq_true_eq]
      omega
    rw [this]
    rfl
  | n + 1 => by
    rw [cnts_succ, List.sum_append, cnts_sum l n, cnt_step n l]
    simp
theorem cnts_mem {l : List Nat} {n : Nat} {i : Int} (h : i ∈ cnts l n) : ∃ k, k < n ∧ i = (l.count (97 + k) : Int) := by
  obtain ⟨k, hk, rfl⟩ := List.mem_map.mp h
  exact ⟨k, List.mem_range.mp hk, rfl⟩
structure WOk (l : List Nat) (n : Nat) : Prop where
  n1 : 1 ≤ n
  n4 : n ≤ 4
  lo : ∀ k, k < n → 1 ≤ l.count (97 + k)
  hi : ∀ k, k < n → l.count (97 + k) ≤ 120
  no : ∀ k, n ≤ k → k < 4 → l.count (97 + k) = 0
  al : ∀ c ∈ l, 97 ≤ c ∧ c ≤ 100
  le : l.length ≤ 240
theorem abcd_at {c i : Nat} (h : (Str.ofString "abcd").cps[i]? = some c) : c = 97 + i := by
  have e : (Str.ofString "abcd").cps = #[97, 98, 99, 100] := by decide +kernel
  rw [e] at h
  match i, h with
  | 0, h => exact (Option.some.inj h).symm
  | 1, h => exact (Option.some.inj h).symm
  | 2, h => exact (Option.some.inj h).symm
  | 3, h => exact (Option.some.inj h).symm
  | (k + 4), h => simp at h
theorem neE_do {H : Hp} {a b : Addr} {ns : List Int} {Q : VK} (h1 : SqL K H a (ns.map V.int)) (h2 : H b = some (.lst [])) (hn : 0 < ns.length) (q : Q (.bl true) H) : rNeD K (.ref a) (.ref b) H Q := by
  cases ns with
  | nil => cases hn
  | cons x xs =>
    refine ⟨_, _, .lst h1 (dp_ints _), .lst (sqL_of h2) .nil, shaped_ints _, rfl, ?_⟩
    exact q
theorem eqE_do {H : Hp} {a b : Addr} {ns : List Int} {Q : VK} (h1 : SqL K H a (ns.map V.int)) (h2 : H b = some (.lst [])) (hn : 0 < ns.length) (q : Q (.bl false) H) : rEqD K (.ref a) (.ref b) H Q := by
  cases ns with
  | nil => cases hn
  | cons x xs =>
    refine ⟨_, _, .lst h1 (dp_ints _), .lst (sqL_of h2) .nil, shaped_ints _, rfl, ?_⟩
    exact q
def shp (K : PySem.W.Frag) (H : Hp) (a : Addr) (l : List Nat) (n : Nat) : Prop := ∃ dx sh, H a = some (.ins (He.ga K "Weave") dx [("own_letters", .str (sg l)), ("own_shape", .ref sh)]) ∧ H sh = some (.tup ((cnts l n).map V.int))
theorem abcd_index {c : Nat} (h1 : 97 ≤ c) (h2 : c ≤ 100) : Builtin.Str.occurrences (Str.ofString "abcd") ⟨#[c]⟩ 0 (Str.ofString "abcd").length 1 = [c - 97] := by
  rcases (show c = 97 ∨ c = 98 ∨ c = 99 ∨ c = 100 by omega) with e | e | e | e <;> subst e <;> decide +kernel
def PathAt (H : Hp) (xs : List V) (l : List Nat) (n : Nat) : Prop := ∀ (j : Nat) (x : V) (c : Nat), xs[j]? = some x → l[j]? = some c → ∃ a t, x = .ref a ∧ H a = some (.tup [.int ((c - 97 : Nat) : Int), .ref t]) ∧ H t = some (.tup ((cnts (l.take j) n).map V.int))
theorem PathAt.same {H H' : Hp} {xs : List V} {l : List Nat} {n : Nat} (h : PathAt H xs l n) (s : Same H H') : PathAt H' xs l n := fun j x c hx hc => by
  obtain ⟨a, t, e, ha, ht⟩ := h j x c hx hc
  exact ⟨a, t, e, s _ _ ha, s _ _ ht⟩
theorem PathAt.put {H : Hp} {xs zs : List V} {l : List Nat} {n : Nat} {D : Addr} {o : HO} (h : PathAt H xs l n) (hD : H D = some (.lst zs)) : PathAt (upd H D o) xs l n := fun j x c hx hc => by
  obtain ⟨a, t, e, ha, ht⟩ := h j x c hx hc
  have na : a ≠ D := fun z => by
    rw [z, hD] at ha
    cases ha
  have nt : t ≠ D := fun z => by
    rw [z, hD] at ht
    cases ht
  exact ⟨a, t, e, upd_at na ha, upd_at nt ht⟩
theorem PathAt.snoc {H : Hp} {xs : List V} {l : List Nat} {n : Nat} {a t : Addr} {c : Nat} (h : PathAt H xs l n) (hc : l[xs.length]? = some c) (ha : H a = some (.tup [.int ((c - 97 : Nat) : Int), .ref t])) (ht : H t = some (.tup ((cnts (l.take xs.length) n).map V.int))) : PathAt H (xs ++ [.ref a]) l n := fun j x d hx hd => by
  by_cases hj : j < xs.length
  · rw [List.getElem?_append_left hj] at hx
    exact h j x d hx hd
  · rw [List.getElem?_append_right (by omega)] at hx
    have hj0 := (List.getElem?_eq_some_iff.mp hx).1
    simp only [List.length_singleton] at hj0
    have e : j = xs.length := by omega
    subst e
    rw [Nat.sub_self] at hx
    cases hx
    rw [hc] at hd
    cases hd
    exact ⟨a, t, rfl, ha, ht⟩
theorem rep_one (v : V) : ∀ n : Nat, (List.replicate n [v]).flatten = List.replicate n v
  | 0 => rfl
  | n + 1 => by
    rw [List.replicate_succ, List.flatten_cons, rep_one v n]
    rfl
theorem cnts_nil (n : Nat) : cnts [] n = List.replicate n 0 := by
  unfold cnts
  simp [List.map_const']
theorem cnts_len (l : List Nat) (n : Nat) : (cnts l n).length = n := by
  unfold cnts
  rw [List.length_map, List.length_range]
theorem cnts_snoc {l : List Nat} {n c : Nat} (h1 : 97 ≤ c) (h2 : c < 97 + n) : cnts (l ++ [c]) n = (cnts l n).set (c - 97) ((l.count c : Int) + 1) := by
  apply List.ext_getElem?
  intro k
  by_cases hk : k < n
  · rw [cnts_at hk]
    by_cases e : k = c - 97
    · rw [← e, List.getElem?_set_self (by rw [cnts_len]; exact hk), List.count_append]
      have : 97 + k = c := by omega
      rw [this]
      simp
    · rw [List.getElem?_set_ne (by omega), cnts_at hk, List.count_append]
      have : ¬ c = 97 + k := by omega
      simp [this]
  · rw [List.getElem?_eq_none (by rw [cnts_len]; omega), List.getElem?_eq_none (by rw [List.length_set, cnts_len]; omega)]
theorem WOk.rng {l : List Nat} {n : Nat} (h : WOk l n) : ∀ c ∈ l, 97 ≤ c ∧ c < 97 + n := fun c hc => by
  obtain ⟨a, b⟩ := h.al c hc
  refine ⟨a, ?_⟩
  rcases Nat.lt_or_ge c (97 + n) with g | g
  · exact g
  · have e := h.no (c - 97) (by omega) (by omega)
    have := List.count_pos_iff.mpr hc
    rw [show 97 + (c - 97) = c by omega] at e
    omega
theorem cnt_lt {l : List Nat} {i : Nat} (h : i < l.length) : (l.take i).count l[i] < l.count l[i] := by
  have e : l = l.take i ++ (l[i] :: l.drop (i + 1)) := by
    rw [← List.drop_eq_getElem_cons h, List.take_append_drop]
  have e2 : l.count l[i] = (l.take i ++ (l[i] :: l.drop (i + 1))).count l[i] := by rw [← e]
  rw [e2, List.count_append, List.count_cons_self]
  omega
/-- the key's first j bits -/
def keyN (l : List Nat) (cs : List Int) : Nat → Int
  | 0 => 0
  | j + 1 => keyN l cs j * 2 + cs.getD (l.getD j 0 - 97) 0 / 2 ^ (l.count (l.getD j 0) - (l.take j).count (l.getD j 0) - 1) % 2
theorem keyN_bound (l : List Nat) (cs : List Int) : ∀ j, 0 ≤ keyN l cs j ∧ keyN l cs j < 2 ^ j
  | 0 => ⟨Int.le_refl _, by show (0 : Int) < 2 ^ 0; decide⟩
  | j + 1 => by
    obtain ⟨a, b⟩ := keyN_bound l cs j
    have r0 := Int.emod_nonneg (cs.getD (l.getD j 0 - 97) 0 / 2 ^ (l.count (l.getD j 0) - (l.take j).count (l.getD j 0) - 1)) (show (2 : Int) ≠ 0 by decide)
    have r1 := Int.emod_lt_of_pos (cs.getD (l.getD j 0 - 97) 0 / 2 ^ (l.count (l.getD j 0) - (l.take j).count (l.getD j 0) - 1)) (show (0 : Int) < 2 by decide)
    rw [keyN, Int.pow_succ]
    omega
structure CellOk (l : List Nat) (n : Nat) (cs : List Int) : Prop where
  len : cs.length = n
  lo : ∀ k, k < n → 0 ≤ cs.getD k 0
  hi : ∀ k, k < n → cs.getD k 0 < 2 ^ l.count (97 + k)
/-- a number of a key's cell, after j letters -/
def cellN (l : List Nat) (key : Int) (k : Nat) : Nat → Int
  | 0 => 0
  | j + 1 => if l.getD j 0 = 97 + k then cellN l key k j * 2 + key / 2 ^ (l.length - (j + 1)) % 2 else cellN l key k j
def nums (l : List Nat) (key : Int) (n j : Nat) : List Int := (List.range n).map fun k => cellN l key k j
theorem nums_len (l : List Nat) (key : Int) (n j : Nat) : (nums l key n j).length = n := by
  unfold nums
  rw [List.length_map, List.length_range]
theorem nums_at {l : List Nat} {key : Int} {n j k : Nat} (h : k < n) : (nums l key n j)[k]? = some (cellN l key k j) := by
  unfold nums
  rw [List.getElem?_map, List.getElem?_range h]
  rfl
theorem nums_step {l : List Nat} {key : Int} {n j : Nat} (h1 : 97 ≤ l.getD j 0) : nums l key n (j + 1) = (nums l key n j).set (l.getD j 0 - 97) (cellN l key (l.getD j 0 - 97) j * 2 + key / 2 ^ (l.length - (j + 1)) % 2) := by
  apply List.ext_getElem?
  intro k
  by_cases hk : k < n
  · rw [nums_at hk, cellN]
    by_cases e : l.getD j 0 = 97 + k
    · rw [if_pos e, show l.getD j 0 - 97 = k by omega, List.getElem?_set_self (by rw [nums_len]; exact hk)]
    · rw [if_neg e, List.getElem?_set_ne (by omega), nums_at hk]
  · rw [List.getElem?_eq_none (by rw [nums_len]; omega), List.getElem?_eq_none (by rw [List.length_set, nums_len]; omega)]
theorem cellN_bound (l : List Nat) (key : Int) (k : Nat) : ∀ j, 0 ≤ cellN l key k j ∧ cellN l key k j < 2 ^ j
  | 0 => ⟨Int.le_refl _, by show (0 : Int) < 2 ^ 0; decide⟩
  | j + 1 => by
    obtain ⟨a, b⟩ := cellN_bound l key k j
    have r0 := Int.emod_nonneg (key / 2 ^ (l.length - (j + 1))) (show (2 : Int) ≠ 0 by decide)
    have r1 := Int.emod_lt_of_pos (key / 2 ^ (l.length - (j + 1))) (show (0 : Int) < 2 by decide)
    rw [cellN, Int.pow_succ]
    split <;> omega
theorem ediv_pow_succ (x : Int) (m : Nat) : x / 2 ^ (m + 1) = x / 2 / 2 ^ m := by
  rw [Int.ediv_ediv_of_nonneg (by decide), Int.pow_succ, Int.mul_comm]
theorem ediv_pow_succ' (x : Int) (m : Nat) : x / 2 ^ (m + 1) = x / 2 ^ m / 2 := by
  rw [Int.ediv_ediv_of_nonneg (Int.le_of_lt (Int.pow_pos (by decide))), Int.pow_succ]
theorem keyN_half (l : List Nat) (cs : List Int) (j : Nat) : keyN l cs (j + 1) / 2 = keyN l cs j := by
  rw [keyN]
  generalize cs.getD (l.getD j 0 - 97) 0 / 2 ^ (l.count (l.getD j 0) - (l.take j).count (l.getD j 0) - 1) = X
  omega
theorem keyN_div (l : List Nat) (cs : List Int) (j : Nat) : ∀ m : Nat, keyN l cs (j + m) / 2 ^ m = keyN l cs j
  | 0 => by rw [Int.pow_zero, Int.ediv_one]; rfl
  | m + 1 => by
    rw [ediv_pow_succ, ← Nat.add_assoc, keyN_half, keyN_div l cs j m]
theorem keyN_bit {l : List Nat} {cs : List Int} {j : Nat} (h : j < l.length) : keyN l cs l.length / 2 ^ (l.length - (j + 1)) % 2 = cs.getD (l.getD j 0 - 97) 0 / 2 ^ (l.count (l.getD j 0) - (l.take j).count (l.getD j 0) - 1) % 2 := by
  have e := keyN_div l cs (j + 1) (l.length - (j + 1))
  rw [show j + 1 + (l.length - (j + 1)) = l.length by omega] at e
  rw [e, keyN]
  generalize cs.getD (l.getD j 0 - 97) 0 / 2 ^ (l.count (l.getD j 0) - (l.take j).count (l.getD j 0) - 1) = X
  omega
theorem count_step {l : List Nat} {j c : Nat} (h : j < l.length) : (l.take (j + 1)).count c = (l.take j).count c + if l.getD j 0 = c then 1 else 0 := by
  have hg : l.getD j 0 = l[j] := by rw [List.getD_eq_getElem?_getD, List.getElem?_eq_getElem h]; rfl
  rw [List.take_succ_eq_append_getElem h, List.count_append, hg, List.count_singleton]
  simp
theorem count_take_le (l : List Nat) (j c : Nat) : (l.take j).count c ≤ l.count c := List.Sublist.count_le _ (List.take_sublist j l)
theorem cellN_key {l : List Nat} {cs : List Int} {k : Nat} (h0 : 0 ≤ cs.getD k 0) (h1 : cs.getD k 0 < 2 ^ l.count (97 + k)) : ∀ j, j ≤ l.length → cellN l (keyN l cs l.length) k j = cs.getD k 0 / 2 ^ (l.count (97 + k) - (l.take j).count (97 + k))
  | 0, _ => by
    rw [cellN, List.take_zero, List.count_nil, Nat.sub_zero, Int.ediv_eq_zero_of_lt h0 h1]
  | j + 1, h => by
    have hj : j < l.length := h
    have ih := cellN_key h0 h1 j (by omega)
    rw [cellN, ih, count_step hj]
    by_cases e : l.getD j 0 = 97 + k
    · have hlt := cnt_lt hj
      have hg : l.getD j 0 = l[j] := by rw [List.getD_eq_getElem?_getD, List.getElem?_eq_getElem hj]; rfl
      rw [← hg, e] at hlt
      rw [if_pos e, if_pos e, keyN_bit hj, e, show 97 + k - 97 = k by omega]
      obtain ⟨m, hm⟩ : ∃ m, l.count (97 + k) = (l.take j).count (97 + k) + 1 + m := ⟨l.count (97 + k) - ((l.take j).count (97 + k) + 1), by omega⟩
      rw [hm, show (l.take j).count (97 + k) + 1 + m - (l.take j).count (97 + k) = m + 1 by omega, show (l.take j).count (97 + k) + 1 + m - ((l.take j).count (97 + k) + 1) = m by omega, show m + 1 - 1 = m by omega, ediv_pow_succ']
      generalize cs.getD k 0 / 2 ^ m = X
      omega
    · rw [if_neg e, if_neg e, Nat.add_zero]
theorem nums_key {l : List Nat} {n : Nat} {cs : List Int} (hc : CellOk l n cs) : nums l (keyN l cs l.length) n l.length = cs := by
  apply List.ext_getElem?
  intro k
  by_cases hk : k < n
  · rw [nums_at hk, cellN_key (hc.lo k hk) (hc.hi k hk) _ (Nat.le_refl _), List.take_length, Nat.sub_self, Int.pow_zero, Int.ediv_one, List.getD_eq_getElem?_getD, List.getElem?_eq_getElem (by rw [hc.len]; exact hk)]
    rfl
  · rw [List.getElem?_eq_none (by unfold nums; rw [List.length_map, List.length_range]; omega), List.getElem?_eq_none (by rw [hc.len]; omega)]
theorem cellN_div {l : List Nat} {key : Int} {k j : Nat} : ∀ m : Nat, j + m ≤ l.length → cellN l key k (j + m) / 2 ^ ((l.take (j + m)).count (97 + k) - (l.take j).count (97 + k)) = cellN l key k j
  | 0, _ => by rw [Nat.add_zero, Nat.sub_self, Int.pow_zero, Int.ediv_one]
  | m + 1, h => by
    have hj : j + m < l.length := by omega
    have ih := cellN_div (l := l) (key := key) (k := k) (j := j) m (by omega)
    have mono : (l.take j).count (97 + k) ≤ (l.take (j + m)).count (97 + k) := List.Sublist.count_le _ (by
      rw [show l.take j = (l.take (j + m)).take j by rw [List.take_take, Nat.min_eq_left (by omega)]]
      exact List.take_sublist _ _)
    rw [← Nat.add_assoc, cellN, count_step hj]
    by_cases e : l.getD (j + m) 0 = 97 + k
    · rw [if_pos e, if_pos e, show (l.take (j + m)).count (97 + k) + 1 - (l.take j).count (97 + k) = ((l.take (j + m)).count (97 + k) - (l.take j).count (97 + k)) + 1 by omega, ediv_pow_succ]
      generalize key / 2 ^ (l.length - (j + m + 1)) = X
      rw [show (cellN l key k (j + m) * 2 + X % 2) / 2 = cellN l key k (j + m) by omega]
      exact ih
    · rw [if_neg e, if_neg e, Nat.add_zero]
      exact ih
theorem cellN_hi {l : List Nat} {key : Int} {k : Nat} : ∀ j, j ≤ l.length → 0 ≤ cellN l key k j ∧ cellN l key k j < 2 ^ (l.take j).count (97 + k)
  | 0, _ => ⟨Int.le_refl _, by rw [List.take_zero, List.count_nil]; show (0 : Int) < 2 ^ 0; decide⟩
  | j + 1, h => by
    obtain ⟨a, b⟩ := cellN_hi (l := l) (key := key) (k := k) j (by omega)
    rw [cellN, count_step h]
    by_cases e : l.getD j 0 = 97 + k
    · rw [if_pos e, if_pos e, Int.pow_succ]
      generalize key / 2 ^ (l.length - (j + 1)) = X
      omega
    · rw [if_neg e, if_neg e, Nat.add_zero]
      exact ⟨a, b⟩
theorem nums_ok (l : List Nat) (key : Int) (n : Nat) : CellOk l n (nums l key n l.length) := by
  have g : ∀ k, k < n → (nums l key n l.length).getD k 0 = cellN l key k l.length := fun k hk => by
    rw [List.getD_eq_getElem?_getD, nums_at hk]
    rfl
  refine ⟨by unfold nums; rw [List.length_map, List.length_range], fun k hk => ?_, fun k hk => ?_⟩
  · rw [g k hk]
    exact (cellN_hi _ (Nat.le_refl _)).1
  · rw [g k hk]
    have := (cellN_hi (l := l) (key := key) (k := k) _ (Nat.le_refl _)).2
    rw [List.take_length] at this
    exact this
theorem key_nums {l : List Nat} {key : Int} {n : Nat} (hl : ∀ c ∈ l, 97 ≤ c ∧ c < 97 + n) (k0 : 0 ≤ key) (k1 : key < 2 ^ l.length) : ∀ j, j ≤ l.length → keyN l (nums l key n l.length) j = key / 2 ^ (l.length - j)
  | 0, _ => by rw [keyN, Nat.sub_zero, Int.ediv_eq_zero_of_lt k0 k1]
  | j + 1, h => by
    have hj : j < l.length := h
    have ih := key_nums hl k0 k1 j (by omega)
    have hg : l.getD j 0 = l[j] := by rw [List.getD_eq_getElem?_getD, List.getElem?_eq_getElem hj]; rfl
    obtain ⟨c1, c2⟩ := hl _ (List.getElem_mem hj)
    rw [← hg] at c1 c2
    rw [keyN, ih, show (nums l key n l.length).getD (l.getD j 0 - 97) 0 = cellN l key (l.getD j 0 - 97) l.length by rw [List.getD_eq_getElem?_getD, nums_at (by omega)]; rfl]
    have d := cellN_div (l := l) (key := key) (k := l.getD j 0 - 97) (j := j + 1) (l.length - (j + 1)) (by omega)
    rw [show j + 1 + (l.length - (j + 1)) = l.length by omega, List.take_length, count_step hj, show 97 + (l.getD j 0 - 97) = l.getD j 0 by omega, if_pos rfl, ← Nat.sub_sub] at d
    rw [d, cellN, if_pos (by omega)]
    rw [show l.length - j = (l.length - (j + 1)) + 1 by omega, ediv_pow_succ']
    generalize key / 2 ^ (l.length - (j + 1)) = X
    omega
theorem key_back {l : List Nat} {key : Int} {n : Nat} (hl : ∀ c ∈ l, 97 ≤ c ∧ c < 97 + n) (k0 : 0 ≤ key) (k1 : key < 2 ^ l.length) : keyN l (nums l key n l.length) l.length = key := by
  rw [key_nums hl k0 k1 _ (Nat.le_refl _), Nat.sub_self, Int.pow_zero, Int.ediv_one]
theorem keyN_inj {l : List Nat} {n : Nat} {cs ds : List Int} (hc : CellOk l n cs) (hd : CellOk l n ds) (e : keyN l cs l.length = keyN l ds l.length) : cs = ds := by
  rw [← nums_key hc, ← nums_key hd, e]
theorem asc_range : ∀ (ns : List Int) (lo : Int), ns.Pairwise (· < ·) → (∀ x ∈ ns, lo ≤ x ∧ x < lo + ns.length) → ns = (List.range ns.length).map fun i => lo + (i : Nat)
  | [], _, _, _ => rfl
  | x :: xs, lo, hp, hb => by
    obtain ⟨h1, h2⟩ := List.pairwise_cons.mp hp
    have hx := hb x List.mem_cons_self
    have ih := asc_range xs (lo + 1) h2 fun y hy => by
      have a := h1 y hy
      have b := hb y (List.mem_cons_of_mem _ hy)
      rw [List.length_cons] at b
      omega
    have ex : x = lo := by
      cases xs with
      | nil =>
        simp only [List.length_cons, List.length_nil] at hx
        omega
      | cons y ys =>
        have a := h1 y List.mem_cons_self
        have : y = lo + 1 + ((0 : Nat) : Int) := by
          have := congrArg (fun l => l[0]?) ih
          simp only [List.length_cons, List.getElem?_cons_zero, List.getElem?_map, List.getElem?_range (show 0 < ys.length + 1 by omega), Option.map_some, Option.some.injEq] at this
          exact this
        omega
    rw [List.length_cons, List.range_succ_eq_map, List.map_cons, List.map_map]
    rw [ex]
    congr 1
    · simp
    · conv => lhs; rw [ih]
      apply List.map_congr_left
      intro i _
      simp only [Function.comp]
      omega
theorem sorted_range {ns ks : List Int} {N : Nat} (hp : ns.Perm ks) (hs : ns.Pairwise (· ≤ ·)) (hn : ks.Nodup) (hb : ∀ x ∈ ks, 0 ≤ x ∧ x < (N : Int)) (hl : ks.length = N) : ns = (List.range N).map fun i => ((i : Nat) : Int) := by
  have hnd : ns.Nodup := hp.nodup_iff.mpr hn
  have hlt : ns.Pairwise (· < ·) := (hs.and hnd).imp fun {a b} h => by
    have := h.1
    have := h.2
    omega
  have e := asc_range ns 0 hlt fun x hx => by
    have := hb x (hp.mem_iff.mp hx)
    rw [hp.length_eq, hl]
    omega
  rw [hp.length_eq, hl] at e
  conv => lhs; rw [e]
  apply List.map_congr_left
  intro i _
  omega

theorem WOk.sum {l : List Nat} {n : Nat} (h : WOk l n) : (cnts l n).sum = (l.length : Int) := by
  rw [cnts_sum, List.filter_eq_self.mpr]
  intro c hc
  exact decide_eq_true (h.rng c hc)
theorem shp_same {H H' : Hp} {x : Addr} {l : List Nat} {n : Nat} (h : shp K H x l n) (s : Same H H') : shp K H' x l n := by
  obtain ⟨dx, sh, h1, h2⟩ := h
  exact ⟨dx, sh, s _ _ h1, s _ _ h2⟩
theorem shp_but {H H' : Hp} {x D : Addr} {l : List Nat} {n : Nat} {zs : List V} (h : shp K H x l n) (b : But D H H') (hD : H D = some (.lst zs)) : shp K H' x l n := by
  obtain ⟨dx, sh, h1, h2⟩ := h
  exact ⟨dx, sh, b _ _ (fun z => by rw [z, hD] at h1; cases h1) h1, b _ _ (fun z => by rw [z, hD] at h2; cases h2) h2⟩
theorem shp_br {H H' : Hp} {x a : Addr} {l : List Nat} {n m : Nat} (h : shp K H x l n) (B : Br a m H) (b : But a H H') : shp K H' x l n := by
  obtain ⟨o, h1, _, _, _, e, _⟩ := B
  exact shp_but h b (by rw [h1, e])
theorem Br.at {a p : Addr} {n : Nat} {H : Hp} {o : HO} (h : Br a n H) (np : p ≠ a) : Br a n (upd H p o) := by
  obtain ⟨u, h1, h2⟩ := h
  exact ⟨u, upd_at np.symm h1, h2⟩
theorem Br.keepT {K : PySem.W.Frag} {a p : Addr} {n : Nat} {H H' : Hp} {xs : List V} (h : Br a n H) (b : But a H H') (t : SqT K H p xs) : SqT K H' p xs := by
  obtain ⟨o, h1, x, y, z, e, _⟩ := h
  exact b.sqT (by rw [h1, e]) t
theorem Br.tups {a : Addr} {n : Nat} {H H' : Hp} {xs : List V} {ts : List (List V)} (h : Br a n H) (b : But a H H') (t : TupsAt H xs ts) : TupsAt H' xs ts := by
  obtain ⟨o, h1, x, y, z, e, _⟩ := h
  exact t.but b (by rw [h1, e])
theorem Br.keep {a p : Addr} {n : Nat} {H H' : Hp} {xs : List V} (h : Br a n H) (b : But a H H') (t : H p = some (.tup xs)) : H' p = some (.tup xs) := by
  obtain ⟨o, h1, x, y, z, e, _⟩ := h
  exact b.keepT (by rw [h1, e]) t
theorem cells_bit {m : Nat} (h : m ≤ 120) : (2 : Int) ^ m < 2 ^ (1000 : Nat) := by
  have := pow_le (a := m) (b := 120) h
  have : (2 : Int) ^ 120 < 2 ^ (1000 : Nat) := by decide +kernel
  omega
structure ShOk (sh : List Int) : Prop where
  n1 : 1 ≤ sh.length
  n4 : sh.length ≤ 4
  bt : ∀ b ∈ sh, 1 ≤ b ∧ b ≤ 120
  sm : sh.sum ≤ 240
/-- what is left of each axis behind these letters -/
def lft (sh : List Int) (l : List Nat) : List Int := (List.range sh.length).map fun k => sh.getD k 0 - (l.count (97 + k) : Nat)
theorem lft_len (sh : List Int) (l : List Nat) : (lft sh l).length = sh.length := by
  unfold lft
  rw [List.length_map, List.length_range]
theorem lft_at {sh : List Int} {l : List Nat} {k : Nat} (h : k < sh.length) : (lft sh l)[k]? = some (sh.getD k 0 - (l.count (97 + k) : Nat)) := by
  unfold lft
  rw [List.getElem?_map, List.getElem?_range h]
  rfl
theorem lft_get {sh : List Int} {l : List Nat} {k : Nat} (h : k < sh.length) : (lft sh l).getD k 0 = sh.getD k 0 - (l.count (97 + k) : Nat) := by
  rw [List.getD_eq_getElem?_getD, lft_at h]
  rfl
theorem getD_self (sh : List Int) : ((List.range sh.length).map fun k => sh.getD k 0) = sh := by
  apply List.ext_getElem?
  intro k
  by_cases h : k < sh.length
  · rw [List.getElem?_map, List.getElem?_range h, List.getElem?_eq_getElem h, Option.map_some, List.getD_eq_getElem?_getD, List.getElem?_eq_getElem h]
    rfl
  · rw [List.getElem?_eq_none (by rw [List.length_map, List.length_range]; omega), List.getElem?_eq_none (by omega)]
theorem lft_nil (sh : List Int) : lft sh [] = sh := by
  have e := getD_self sh
  unfold lft
  simp only [List.count_nil]
  simpa using e
theorem lft_snoc {sh : List Int} {l : List Nat} {k : Nat} (h : k < sh.length) : lft sh (l ++ [97 + k]) = (lft sh l).set k ((lft sh l).getD k 0 - 1) := by
  apply List.ext_getElem?
  intro j
  by_cases hj : j < sh.length
  · rw [lft_at hj]
    by_cases e : j = k
    · subst e
      rw [List.getElem?_set_self (by rw [lft_len]; exact hj), lft_get hj, List.count_append, List.count_singleton_self]
      congr 1
      omega
    · rw [List.getElem?_set_ne (by omega), lft_at hj, List.count_append, List.count_singleton, if_neg (by rw [beq_iff_eq]; omega), Nat.add_zero]
  · rw [List.getElem?_eq_none (by rw [lft_len]; omega), List.getElem?_eq_none (by rw [List.length_set, lft_len]; omega)]
theorem sum_sub_range (f g : Nat → Int) : ∀ n : Nat, ((List.range n).map fun k => f k - g k).sum = ((List.range n).map f).sum - ((List.range n).map g).sum
  | 0 => rfl
  | n + 1 => by
    simp only [List.range_succ, List.map_append, List.sum_append, List.map_cons, List.map_nil, List.sum_singleton, sum_sub_range f g n]
    omega
theorem lft_sum {sh : List Int} {l : List Nat} (h : ∀ c ∈ l, 97 ≤ c ∧ c < 97 + sh.length) : (lft sh l).sum = sh.sum - (l.length : Int) := by
  unfold lft
  rw [sum_sub_range, getD_self]
  have e := cnts_sum l sh.length
  unfold cnts at e
  rw [e, List.filter_eq_self.mpr fun c hc => decide_eq_true (h c hc)]
theorem sumNN : ∀ xs : List Int, (∀ x ∈ xs, 0 ≤ x) → 0 ≤ xs.sum
  | [], _ => Int.le_refl _
  | x :: xs, h => by
    rw [List.sum_cons]
    have := sumNN xs fun y hy => h y (List.mem_cons_of_mem _ hy)
    have := h x List.mem_cons_self
    omega
theorem sum_pos_ex : ∀ xs : List Int, (∀ x ∈ xs, 0 ≤ x) → 0 < xs.sum → ∃ k, k < xs.length ∧ 0 < xs.getD k 0
  | [], _, h => absurd h (by decide)
  | x :: xs, h, hs => by
    rw [List.sum_cons] at hs
    by_cases e : 0 < x
    · exact ⟨0, by rw [List.length_cons]; omega, e⟩
    · obtain ⟨k, h1, h2⟩ := sum_pos_ex xs (fun y hy => h y (List.mem_cons_of_mem _ hy)) (by omega)
      exact ⟨k + 1, by rw [List.length_cons]; omega, h2⟩
theorem sum_zero_all : ∀ xs : List Int, (∀ x ∈ xs, 0 ≤ x) → xs.sum = 0 → ∀ x ∈ xs, x = 0
  | [], _, _, x, hx => by cases hx
  | y :: xs, h, hs, x, hx => by
    rw [List.sum_cons] at hs
    have h0 := sumNN xs fun y hy => h y (List.mem_cons_of_mem _ hy)
    have h1 := h y List.mem_cons_self
    rcases List.mem_cons.mp hx with e | e
    · omega
    · exact sum_zero_all xs (fun y hy => h y (List.mem_cons_of_mem _ hy)) (by omega) x e
theorem memG {xs : List Int} {x : Int} (h : x ∈ xs) : ∃ k, k < xs.length ∧ xs.getD k 0 = x := by
  obtain ⟨k, hk⟩ := List.mem_iff_getElem?.mp h
  obtain ⟨hl, _⟩ := List.getElem?_eq_some_iff.mp hk
  exact ⟨k, hl, by rw [List.getD_eq_getElem?_getD, hk]; rfl⟩
theorem gMem {xs : List Int} {k : Nat} (h : k < xs.length) : xs.getD k 0 ∈ xs := by
  rw [List.getD_eq_getElem?_getD, List.getElem?_eq_getElem h]
  exact List.getElem_mem h
theorem ShOk.at {sh : List Int} (h : ShOk sh) {k : Nat} (hk : k < sh.length) : 1 ≤ sh.getD k 0 ∧ sh.getD k 0 ≤ 120 := h.bt _ (gMem hk)
theorem lft_done {sh : List Int} {l : List Nat} (h : ShOk sh) (ha : ∀ c ∈ l, 97 ≤ c ∧ c < 97 + sh.length) (hl : (l.length : Int) = sh.sum) (h0 : ∀ k, k < sh.length → 0 ≤ (lft sh l).getD k 0) : WOk l sh.length ∧ cnts l sh.length = sh := by
  have z : ∀ k, k < sh.length → sh.getD k 0 = (l.count (97 + k) : Nat) := fun k hk => by
    have := sum_zero_all (lft sh l) (fun x hx => by
      obtain ⟨j, hj, rfl⟩ := memG hx
      exact h0 j (by rw [lft_len] at hj; exact hj)) (by rw [lft_sum ha]; omega) _ (gMem (k := k) (by rw [lft_len]; exact hk))
    rw [lft_get hk] at this
    omega
  refine ⟨⟨h.n1, h.n4, fun k hk => ?_, fun k hk => ?_, fun k hk _ => ?_, fun c hc => ?_, by have := h.sm; omega⟩, ?_⟩
  · have := z k hk
    have := (h.at hk).1
    omega
  · have := z k hk
    have := (h.at hk).2
    omega
  · apply List.count_eq_zero.mpr
    intro hm
    have := ha _ hm
    omega
  · have := ha c hc
    have := h.n4
    omega
  · apply List.ext_getElem?
    intro k
    by_cases hk : k < sh.length
    · rw [cnts_at hk, ← z k hk, List.getElem?_eq_getElem hk, List.getD_eq_getElem?_getD, List.getElem?_eq_getElem hk]
      rfl
    · rw [List.getElem?_eq_none (by rw [cnts_len]; omega), List.getElem?_eq_none (by omega)]
theorem abcd_get {x : Nat} (h : x < 4) : (Str.ofString "abcd").cps[x]? = some (97 + x) := by
  have e : (Str.ofString "abcd").cps = #[97, 98, 99, 100] := by decide +kernel
  rw [e]
  match x, h with
  | 0, _ => rfl
  | 1, _ => rfl
  | 2, _ => rfl
  | 3, _ => rfl
def grow (b : Nat) (acc : List (List Int)) : List (List Int) := acc.flatMap fun c => (List.range (2 ^ b)).map fun v => c ++ [((v : Nat) : Int)]
def cellsOf (sh : List Int) : List (List Int) := sh.foldl (fun acc b => grow b.toNat acc) [[]]
theorem cellsOf_snoc (sh : List Int) (b : Int) : cellsOf (sh ++ [b]) = grow b.toNat (cellsOf sh) := by
  unfold cellsOf
  rw [List.foldl_append]
  rfl
theorem grow_len (b : Nat) (acc : List (List Int)) : (grow b acc).length = acc.length * 2 ^ b := by
  unfold grow
  rw [List.length_flatMap]
  simp [List.map_const']
theorem grow_snoc (b : Nat) (acc : List (List Int)) (c : List Int) : grow b (acc ++ [c]) = grow b acc ++ (List.range (2 ^ b)).map fun v => c ++ [((v : Nat) : Int)] := by
  unfold grow
  rw [List.flatMap_append]
  simp
def BoundC (sh : List Int) (c : List Int) : Prop := c.length = sh.length ∧ ∀ k, k < sh.length → 0 ≤ c.getD k 0 ∧ c.getD k 0 < 2 ^ (sh.getD k 0).toNat
theorem mem_grow {b : Nat} {acc : List (List Int)} {c : List Int} (h : c ∈ grow b acc) : ∃ d v, d ∈ acc ∧ v < 2 ^ b ∧ c = d ++ [((v : Nat) : Int)] := by
  unfold grow at h
  rw [List.mem_flatMap] at h
  obtain ⟨d, hd, h⟩ := h
  obtain ⟨v, hv, rfl⟩ := List.mem_map.mp h
  exact ⟨d, v, hd, List.mem_range.mp hv, rfl⟩
theorem cellsOf_all : ∀ (m : Nat) (sh : List Int), m ≤ sh.length → ∀ c ∈ cellsOf (sh.take m), c.length = m ∧ ∀ k, k < m → 0 ≤ c.getD k 0 ∧ c.getD k 0 < 2 ^ (sh.getD k 0).toNat
  | 0, sh, _, c, hc => by
    have : c = [] := by
      rw [List.take_zero] at hc
      exact List.mem_singleton.mp hc
    rw [this]
    exact ⟨rfl, fun k hk => absurd hk (by omega)⟩
  | m + 1, sh, hm, c, hc => by
    rw [List.take_succ_eq_append_getElem hm, cellsOf_snoc] at hc
    obtain ⟨d, v, hd, hv, rfl⟩ := mem_grow hc
    obtain ⟨h1, h2⟩ := cellsOf_all m sh (by omega) d hd
    refine ⟨by rw [List.length_append, h1]; rfl, fun k hk => ?_⟩
    by_cases e : k < m
    · rw [getD_snoc_lt (by omega)]
      exact h2 k e
    · have : k = m := by omega
      subst this
      rw [getD_snoc_eq h1.symm, show sh.getD k 0 = sh[k] by rw [List.getD_eq_getElem?_getD, List.getElem?_eq_getElem hm]; rfl, pow_nat]
      omega
theorem cellsOf_bound {sh : List Int} {c : List Int} (h : c ∈ cellsOf sh) : BoundC sh c := by
  have := cellsOf_all sh.length sh (Nat.le_refl _) c (by rw [List.take_length]; exact h)
  exact this
theorem nodup_flatMap {α β : Type} (f : α → List β) : ∀ l : List α, l.Nodup → (∀ x ∈ l, (f x).Nodup) → (∀ x ∈ l, ∀ y ∈ l, ∀ z, z ∈ f x → z ∈ f y → x = y) → (l.flatMap f).Nodup
  | [], _, _, _ => List.nodup_nil
  | x :: l, h, h1, h2 => by
    obtain ⟨a, b⟩ := List.nodup_cons.mp h
    rw [List.flatMap_cons, List.nodup_append]
    refine ⟨h1 x List.mem_cons_self, nodup_flatMap f l b (fun y hy => h1 y (List.mem_cons_of_mem _ hy)) fun y hy z hz => h2 y (List.mem_cons_of_mem _ hy) z (List.mem_cons_of_mem _ hz), ?_⟩
    intro u hu v hv e
    subst e
    obtain ⟨y, hy, hz⟩ := List.mem_flatMap.mp hv
    have := h2 x List.mem_cons_self y (List.mem_cons_of_mem _ hy) u hu hz
    rw [this] at a
    exact a hy
theorem grow_nodup {b m : Nat} {acc : List (List Int)} (h : acc.Nodup) (hl : ∀ c ∈ acc, c.length = m) : (grow b acc).Nodup := by
  refine nodup_flatMap _ acc h (fun c hc => ?_) fun c hc d hd z h1 h2 => ?_
  · rw [List.nodup_iff_pairwise_ne, List.pairwise_map]
    refine List.Pairwise.imp ?_ (List.nodup_iff_pairwise_ne.mp List.nodup_range)
    intro x y hxy e
    have := List.append_cancel_left e
    simp only [List.cons.injEq, and_true] at this
    omega
  · obtain ⟨v, _, rfl⟩ := List.mem_map.mp h1
    obtain ⟨u, _, e⟩ := List.mem_map.mp h2
    exact (List.append_inj e (by rw [hl c hc, hl d hd])).1.symm
theorem cellsOf_nodup : ∀ (m : Nat) (sh : List Int), m ≤ sh.length → (cellsOf (sh.take m)).Nodup
  | 0, sh, _ => by
    rw [List.take_zero]
    exact List.nodup_cons.mpr ⟨by simp, List.nodup_nil⟩
  | m + 1, sh, hm => by
    rw [List.take_succ_eq_append_getElem hm, cellsOf_snoc]
    exact grow_nodup (cellsOf_nodup m sh (by omega)) fun c hc => (cellsOf_all m sh (by omega) c hc).1
theorem cellsOf_len : ∀ (m : Nat) (sh : List Int), m ≤ sh.length → (∀ b ∈ sh, 0 ≤ b) → (cellsOf (sh.take m)).length = 2 ^ (sh.take m).sum.toNat ∧ 0 ≤ (sh.take m).sum
  | 0, sh, _, _ => by
    rw [List.take_zero]
    exact ⟨rfl, Int.le_refl _⟩
  | m + 1, sh, hm, h0 => by
    obtain ⟨h1, h2⟩ := cellsOf_len m sh (by omega) h0
    have hb := h0 _ (List.getElem_mem hm)
    rw [List.take_succ_eq_append_getElem hm, cellsOf_snoc, grow_len, h1, List.sum_append, List.sum_singleton, Int.toNat_add h2 hb, Nat.pow_add]
    exact ⟨rfl, by omega⟩
theorem mem_le_sum : ∀ (xs : List Int), (∀ x ∈ xs, 0 ≤ x) → ∀ x ∈ xs, x ≤ xs.sum
  | [], _, x, hx => by cases hx
  | y :: xs, h, x, hx => by
    rw [List.sum_cons]
    have h0 := sumNN xs fun y hy => h y (List.mem_cons_of_mem _ hy)
    have h1 := h y List.mem_cons_self
    rcases List.mem_cons.mp hx with e | e
    · omega
    · have := mem_le_sum xs (fun y hy => h y (List.mem_cons_of_mem _ hy)) x e
      omega
theorem sum_take_le (xs : List Int) (h : ∀ x ∈ xs, 0 ≤ x) (m : Nat) : (xs.take m).sum ≤ xs.sum := by
  have e : xs.sum = (xs.take m).sum + (xs.drop m).sum := by rw [← List.sum_append, List.take_append_drop]
  have := sumNN (xs.drop m) fun y hy => h y (List.mem_of_mem_drop hy)
  omega
theorem map_int_snoc (c : List Int) (v : Int) : c.map V.int ++ [.int v] = (c ++ [v]).map V.int := by
  rw [List.map_append]
  rfl
theorem catA {X : Cx} (K : PySem.W.Frag) (h : X.K = K := by rfl) : OpR X (binaryOp .Add) (rCatA K) := by
  subst h
  exact op_catA
theorem catA_do {H : Hp} {a b : Addr} {xs : List V} {y : V} {Q : VK} (ha : SqT K H a xs) (hb : H b = some (.tup [y])) (hl : xs.length ≤ 1000) (q : ∀ r H', Same H H' → H' r = some (.tup (xs ++ [y])) → Q (.ref r) H') : rCatA K (.ref a) (.ref b) H Q := by
  refine ⟨a, b, xs, [y], rfl, rfl, ha, sqT_of hb, le_size (by show xs.length + 1 ≤ _; omega), fun e => ?_, fun _ e => absurd e (by simp), fun _ _ p np => ?_⟩
  · subst e
    exact q b H (fun _ _ h => h) hb
  · exact q p _ (same_new np) upd_same
theorem CellOk.of {sh cs : List Int} {l : List Nat} (e : cnts l sh.length = sh) (h : BoundC sh cs) : CellOk l sh.length cs := by
  refine ⟨h.1, fun k hk => (h.2 k hk).1, fun k hk => ?_⟩
  have := (h.2 k hk).2
  have g : sh.getD k 0 = (l.count (97 + k) : Nat) := by
    have h1 := cnts_at (l := l) hk
    rw [e] at h1
    rw [List.getD_eq_getElem?_getD, h1]
    rfl
  rw [g, Int.toNat_natCast] at this
  exact this
theorem BoundC.nat {sh c : List Int} (hs : ShOk sh) (h : BoundC sh c) : ∀ i ∈ c, i.natAbs < 2 ^ 240 := fun i hi => by
  obtain ⟨k, hk, rfl⟩ := memG hi
  rw [h.1] at hk
  have h1 := h.2 k hk
  have h2 := hs.at hk
  exact nn_lt h1.1 (lt_pow h1.2 (by omega))
theorem rgV_nat (N : Nat) : rgV 0 ((N : Nat) : Int) = ((List.range N).map fun i => ((i : Nat) : Int)).map V.int := by
  unfold rgV
  rw [Int.sub_zero, Int.toNat_natCast, List.map_map]
  apply List.map_congr_left
  intro i _
  simp only [Function.comp, Int.zero_add]
end
end WK
/-! ## enumerate of a tuple -/
namespace WK
open PySem PySem.Spec PySem.W PyProof.Rows L2
set_option maxHeartbeats 4000000 in
theorem meets_enum1 {v : Value} {o : Obj} {H : Heap → Prop} (B : Begins v o H) :
    Meets (Builtin.«enumerate.__new__» ⟨[.type "enumerate", v], []⟩) (fun _ R s => H s.heap ∧
      R (.ok (.ret (.ref (s.heap.push o).objs.size))) { s with heap := (s.heap.push o).push { cls := .type "enumerate", data := .fields #[.none, .bool false, .ref s.heap.objs.size, rawInt 0, .none, .none] } }) :=
  .of_wp fun prog w A R s h => by
    obtain ⟨hp, g, d, tk, os⟩ := s; obtain ⟨h1, h⟩ := h
    have hsub := sub_enumerate
    have q1 : ∀ {A' : Around} {E : Value → Shared → Prop} {Q : Value → Shared → Prop}, Q (.ref hp.objs.size) ⟨hp.push o, g, d, tk, os⟩ → wpAny (model prog w) A' (pyIter v) Q E ⟨hp, g, d, tk, os⟩ :=
      fun q => B.iter prog w _ _ ⟨hp, g, d, tk, os⟩ _ h1 q
    wp_walk using q1
    refine wpAny_stack_any fun st => wpAny_pure ?_
    split
    · rename_i c _ _ _ _ _
      cases (c == Value.type "enumerate")
      · wp_walk using q1
        exact ⟨_, rfl, h⟩
      · wp_walk using q1
        exact ⟨_, rfl, h⟩
    · wp_walk using q1
      exact ⟨_, rfl, h⟩
theorem call_enum1 {prog : Program} {w : World} {A : Around} {E : Value → Shared → Prop} {s : Shared} {v : Value} {o : Obj} {H : Heap → Prop} {Q : Value → Shared → Prop} (B : Begins v o H) (h1 : H s.heap)
    (h : ∀ h', IsEnum h' (s.heap.objs.size + 1) s.heap.objs.size 0 .none → h'.get? s.heap.objs.size = some o → h'.objs.size = s.heap.objs.size + 2 →
      (∀ b o, s.heap.get? b = some o → h'.get? b = some o) → Q (.ref (s.heap.objs.size + 1)) { s with heap := h' }) :
    wpAny (model prog w) A (call (.type "enumerate") [v]) Q E s := by
  refine callType_new F.called_enumerate (by decide) (F.typeCall_enumerate_1 _) (F.newCall_enumerate_1 _) (fun obj => F.args_object_init_2 obj _) F.entry_enumerate_new
    (meets_enum1 B) ⟨h1, ?_⟩
  have hz : (s.heap.push o).objs.size = s.heap.objs.size + 1 := Heap.size_push ..
  show _ ∧ _
  rw [hz]
  have he : IsEnum ((s.heap.push o).push { cls := .type "enumerate", data := .fields #[.none, .bool false, .ref s.heap.objs.size, rawInt 0, .none, .none] }) (s.heap.objs.size + 1) s.heap.objs.size 0 .none := by
    have := Heap.get?_push_size (s.heap.push o) (o := { cls := .type "enumerate", data := .fields #[.none, .bool false, .ref s.heap.objs.size, rawInt 0, .none, .none] }) rfl
    rw [hz] at this; exact this
  refine ⟨⟨_, he, rfl⟩, h _ he (Heap.get?_push_of_some _ (Heap.get?_push_size _ B.free)) (by rw [Heap.size_push, hz]) fun b o x => Heap.get?_push_of_some _ (Heap.get?_push_of_some _ x)⟩
/-- the tuple at a as it stands, each item in a new pair -/
def IteT (K : PySem.W.Frag) (a : Addr) : It :=
  ⟨fun i H => ∃ (xs : List V) (x : V), SqT K H a xs ∧ xs[i]? = some x, fun i H v H' => ∃ T x, v = .ref T ∧ H T = none ∧ H' = upd H T (.tup [.int (i : Nat), x]) ∧ ∀ xs, SqT K H a xs → xs[i]? = some x, fun i H => ∃ xs : List V, SqT K H a xs ∧ xs.length ≤ i⟩
theorem turn_enumT {P : Program} {w : World} {K : PySem.W.Frag} {elts : List Expr} {kk : Nat} {tpos : Pos} (a e it : Addr) (hat : a ≠ it) (hae : a ≠ e) :
    Turn P w K (.Tuple elts kk tpos) (IteT K a) [e, it] e (fun i h => (∃ old, IsEnum h e it ((i : Nat) : Int) old) ∧ h.IsTupleIter it a i ∧ e ≠ it) where
  mem := by simp
  obj := fun i h st b hb => by
    obtain ⟨⟨old, he⟩, ⟨o, ho, hc, hd⟩, _⟩ := st
    have e' : b = e ∨ b = it := by simpa using hb
    rcases e' with z | z
    · rw [z]; exact ⟨_, he, fun v q => nomatch q⟩
    · rw [z]; exact ⟨o, ho, fun v q => by rw [hd] at q; cases q⟩
  keep := fun i h h' st k => let ⟨⟨old, he⟩, hi, hne⟩ := st; ⟨⟨old, k e (by simp) _ he⟩, hi.at fun o q => k it (by simp) o q, hne⟩
  item := by
    intro X hP hw hK hc i pins s σ H E I hf st hg
    subst hP hw hK
    obtain ⟨⟨old, he⟩, hit, hne⟩ := st
    obtain ⟨xs, x, hq, hx⟩ := hg
    obtain ⟨its, rv, p, hz⟩ := I.tuple hq
    obtain ⟨u, hu, ru⟩ := rv.get hx
    have hel : e < s.heap.objs.size := Heap.lt_size he
    have hil : it < s.heap.objs.size := by obtain ⟨_, q, _⟩ := hit; exact Heap.lt_size q
    have hlt : i < its.toArray.size := by
      rw [List.size_toArray, ← rv.length]
      exact (List.getElem?_eq_some_iff.mp hx).1
    refine wpAny_pyNext_enum_itemD (Draws.tuple (A := X.A.in1) (I.ok.hd hc) it a hat its.toArray) he ⟨hit, p⟩ hlt hne (by simp only [List.mem_cons, List.not_mem_nil, or_false]; rintro (z | z); exact hne z; exact hae z.symm) fun x' h' tk hPx ho hst' hT hsz hk => ?_
    obtain ⟨hit', _⟩ := hst'
    have eu : x' = u := by
      have h1 : its.toArray[i]? = some u := by simpa using hu
      rw [h1] at hPx
      exact (Option.some.inj hPx).symm
    subst eu
    refine ⟨_, rfl, wpAny_letOwnedTupleGo_enum (s := { s with heap := h', toks := tk + 1 }) ho fun h'' he' sb => ?_⟩
    have hT2 : h''.get? s.heap.objs.size = some { cls := .type "tuple", data := .seq #[.int i tk, x'] } := (sb.2 _ (Nat.ne_of_gt hel)).trans hT
    have new : ObjOk X.prog X.w (upd H s.heap.objs.size (.tup [.int (i : Nat), x])) h'' s.heap.objs.size (.tup [.int (i : Nat), x]) :=
      ⟨by show 2 ≤ sizeLine; decide, [.int i tk, x'], .cons ⟨_, rfl⟩ (.cons ru .nil), ⟨_, hT2, rfl, _, rfl⟩⟩
    have I1 : Inv X pins σ (upd H s.heap.objs.size (.tup [.int (i : Nat), x])) { s with heap := h'', toks := tk + 1 } :=
      I.turnedNew (ch := [e, it]) (fun b ob hb q => (sb.2 b (fun z => hb (by simp [z]))).trans (hk b ob (fun z => hb (by simp [z])) (fun z => hb (by simp [z])) q)) hf (Nat.le_refl _) new
    refine ⟨.ref s.heap.objs.size, _, I1, rfl, ⟨_, x, rfl, I.hok.fresh (Nat.le_refl _), rfl, fun ys hy => by rw [I.tuple_inj hy hq]; exact hx⟩, ⟨⟨x', ?_⟩, hit'.at fun o q => (sb.2 it (Ne.symm hne)).trans q, hne⟩, fun b hb => ?_⟩
    · have e1 : ((i + 1 : Nat) : Int) = (i : Int) + 1 := by omega
      rw [e1]; exact he'
    · have hb' : b < s.heap.objs.size := by
        have e' : b = e ∨ b = it := by simpa using hb
        rcases e' with z | z
        · rw [z]; exact hel
        · rw [z]; exact hil
      rw [upd_ne (Nat.ne_of_lt hb')]
      exact (hf b hb).1
  done := by
    intro X hP hw hK hc i pins s σ H E I hf st hg
    subst hP hw hK
    obtain ⟨⟨old, he⟩, hit, hne⟩ := st
    obtain ⟨xs, hq, hx⟩ := hg
    obtain ⟨its, rv, p, hz⟩ := I.tuple hq
    obtain ⟨f0, f1, f2, f3, f4, f5⟩ := hf it (by simp)
    have hl := rv.length
    have hT : s.TypeIs (.ref e) "enumerate" := ⟨_, he, rfl⟩
    unfold pyNext
    refine wpAny_bind (wpAny_attempt (wpAny_callSpecial?_slot (name := Str.ofString "__next__") hT F.slot_enumerate_next
      (wpAny_call_entry F.slot_enumerate_next hT F.entry_enumerate_next ?_ (F.args_enumerate_next_1 _))))
    show wpAny _ _ (field (.ref e) 2 >>= _) _ _ _
    refine wpAny_bind (wpAny_field he rfl (x := .ref it) rfl ?_)
    refine wpAny_bind (wpAny_nextOf_tuple_end (I.ok.hd hc) hit p (by simp; omega) fun h' x eb hx' => ?_)
    obtain ⟨o, ho, hc⟩ := hx'
    refine wpAny_bind (wpAny_isInstance (T := "StopIteration") (b := true) ⟨o, ho, hc⟩ isSubtype_stop ?_)
    exact wpAny_pure ⟨rfl, I.turned (t' := s.toks) (fun b o hb q => eb b o hb q) f0 f1 f3 f4 f5⟩
  self := fun A i s Q E st h => let ⟨⟨_, he⟩, _⟩ := st; wpAny_pyIter_enum he h
def iEnumT (K : PySem.W.Frag) (ta : TA) : TI := fun σ H R => ta σ H fun vs H1 => ∃ a xs, vs = [.ref a] ∧ SqT K H1 a xs ∧ R (IteT K a) H1
theorem piEnumT {X : Cx} (K : PySem.W.Frag) {e : Expr} {ta : TA} {p pos tpos : Pos} {elts : List Expr} {kk : Nat} (hm : X.mg "enumerate" = none) (ha : PA X [e] ta) (hK : X.K = K := by rfl) (hg : Gl X "enumerate" := by rfl) (hs : starEach [e] X.env = [(false, eval e X.env)] := by rfl) :
    PI X (.Tuple elts kk tpos) (.Call (.Name "enumerate" p) [e] [] pos) (iEnumT K ta) := by
  subst hK
  refine ⟨fun pins s σ H R I h => ?_⟩
  refine Call_ (ld_blt I hg hm boot_enumerate (PyProof.Rows.callWith_type1 (thn (ha.run pos pins s σ H _ I h) fun us s1 ⟨vs, H1, I1, r1, q1⟩ => ?_) hs rfl))
  obtain ⟨a, xs, ex, hq, q⟩ := q1
  subst ex
  cases r1 with
  | cons r rr =>
    cases rr
    cases r
    obtain ⟨its, rv, p', hz⟩ := I1.tuple hq
    have hal : a < s1.heap.objs.size := by
      obtain ⟨o, ho, _⟩ := id p'
      exact Heap.lt_size ho
    refine call_enum1 (begins_tuple a its.toArray) p' fun h' he hit hsz hk => wpAny_pyIter_enum he ?_
    have I2 : Inv X pins σ H1 { s1 with heap := h' } := I1.kept (t' := s1.toks) hk
    refine ⟨s1.heap.objs.size + 1, [s1.heap.objs.size + 1, s1.heap.objs.size], _, _, H1, rfl, I2, turn_enumT a (s1.heap.objs.size + 1) s1.heap.objs.size (Nat.ne_of_lt hal) (Nat.ne_of_lt (Nat.lt_succ_of_lt hal)), ⟨⟨.none, he⟩, ⟨_, hit, rfl, rfl⟩, Nat.succ_ne_self _⟩, fun b hb => ?_, q⟩
    have e' : b = s1.heap.objs.size + 1 ∨ b = s1.heap.objs.size := by simpa using hb
    have hle : s1.heap.objs.size ≤ b := by
      rcases e' with z | z
      · rw [z]; exact Nat.le_add_right _ _
      · rw [z]; exact Nat.le_refl _
    exact I1.fpOk hle (I1.hok.fresh hle)
theorem walk_enumT {K : PySem.W.Frag} {a : Addr} {xs : List V} : Walk (IteT K a) xs.length (fun H => SqT K H a xs) (YPair (fun i => some (.int (i : Nat))) (fun i => xs[i]?)) := by
  refine ⟨fun i _ hi q => ⟨xs, xs[i], q, by simp [hi]⟩, fun _ q => ⟨xs, q, Nat.le_refl _⟩, fun i H v H' _ q y => ?_⟩
  obtain ⟨T, x, h1, h2, h3, h4⟩ := y
  exact ⟨T, .int (i : Nat), x, h1, h2, h3, rfl, h4 xs q⟩
/-- enumerate of a list -/
theorem piEnum {X : Cx} (K : PySem.W.Frag) {e : Expr} {ta : TA} {p pos tpos : Pos} {elts : List Expr} {kk : Nat} (hm : X.mg "enumerate" = none) (ha : PA X [e] ta) (hK : X.K = K := by rfl) (hg : Gl X "enumerate" := by rfl) (hs : starEach [e] X.env = [(false, eval e X.env)] := by rfl) :
    PI X (.Tuple elts kk tpos) (.Call (.Name "enumerate" p) [e] [] pos) (iEnum K ta) := by
  subst hK
  exact pi_enum hg hm ha hs
end WK
/-! ## zip of a list or tuple with a list or tuple -/
namespace WK
open PySem PySem.Spec PySem.W PyProof.Rows L2 RZ
def SqX (K : PySem.W.Frag) : Bool → Hp → Addr → List V → Prop
  | true, H, a, xs => SqL K H a xs
  | false, H, a, xs => SqT K H a xs
def ItX : Bool → Heap → Addr → Addr → Nat → Prop
  | true, h, it, a, i => h.IsListIter it a i
  | false, h, it, a, i => h.IsTupleIter it a i
def ObX : Bool → Heap → Addr → Array Value → Prop
  | true, h, a, xs => h.IsList a xs
  | false, h, a, xs => h.IsTuple a xs
def bgX (k : Bool) (a : Addr) : Obj := match k with
  | true => { cls := .type "list_iterator", data := .fields #[.ref a, .int 0 0] }
  | false => { cls := .type "tuple_iterator", data := .fields #[.ref a, .int 0 0] }
theorem drX {prog : Program} {w : World} {A : Around} (hh : A.handled = none) (k : Bool) (it a : Addr) (hne : a ≠ it) (items : Array Value) : Draws prog w A it [it, a] items.size (fun i v => items[i]? = some v) (fun i h => ItX k h it a i ∧ ObX k h a items) := by
  cases k
  · exact Draws.tuple hh it a hne items
  · exact Draws.list hh it a hne items
theorem begX (k : Bool) (a : Addr) (items : Array Value) : Begins (.ref a) (bgX k a) fun h => ObX k h a items := by
  cases k
  · exact begins_tuple a items
  · exact begins_list a items
theorem itX0 {k : Bool} {h : Heap} {it a : Addr} (e : h.get? it = some (bgX k a)) : ItX k h it a 0 := by
  cases k
  · exact ⟨_, e, rfl, rfl⟩
  · exact ⟨_, e, rfl, rfl⟩
theorem ItX.at {k : Bool} {h h' : Heap} {it a : Addr} {i : Nat} (x : ItX k h it a i) (e : ∀ o, h.get? it = some o → h'.get? it = some o) : ItX k h' it a i := by
  cases k
  · exact Heap.IsTupleIter.at x e
  · exact Heap.IsListIter.at x e
theorem ItX.ob {k : Bool} {h : Heap} {it a : Addr} {i : Nat} (x : ItX k h it a i) : ∃ o, h.get? it = some o ∧ ∀ v q, o.data = .fields v → o.data = q → ∃ vs, q = .fields vs := by
  cases k <;> obtain ⟨o, e, _, d⟩ := x <;> exact ⟨o, e, fun v q h1 h2 => ⟨v, by rw [← h2, h1]⟩⟩
section
variable {X : Cx} {pins : List (Addr × Obj)} {σ : L2.St} {H : Hp} {s : Shared}
theorem inv_seqX (I : Inv X pins σ H s) {k : Bool} {a : Addr} {xs : List V} (h : SqX X.K k H a xs) : ∃ its : List Value, Vals xs its ∧ ObX k s.heap a its.toArray ∧ a < s.heap.objs.size := by
  cases k
  · obtain ⟨its, rv, p, _⟩ := I.tuple h
    obtain ⟨o, ho, _⟩ := id p
    exact ⟨its, rv, p, Heap.lt_size ho⟩
  · obtain ⟨its, rv, p, _⟩ := I.list h
    obtain ⟨o, ho, _⟩ := id p.isList
    exact ⟨its, rv, p.isList, Heap.lt_size ho⟩
theorem inv_injX (I : Inv X pins σ H s) {k : Bool} {a : Addr} {xs ys : List V} (h : SqX X.K k H a xs) (h' : SqX X.K k H a ys) : xs = ys := by
  cases k
  · exact I.tuple_inj h h'
  · exact I.list_inj h h'
end
def ItzM (K : PySem.W.Frag) (ka kb : Bool) (a b : Addr) : It :=
  ⟨fun i H => ∃ (xs ys : List V) (x y : V), SqX K ka H a xs ∧ SqX K kb H b ys ∧ xs[i]? = some x ∧ ys[i]? = some y,
    fun i H v H' => ∃ T x y, v = .ref T ∧ H T = none ∧ H' = upd H T (.tup [x, y]) ∧ (∀ xs, SqX K ka H a xs → xs[i]? = some x) ∧ ∀ ys, SqX K kb H b ys → ys[i]? = some y,
    fun i H => ∃ xs ys : List V, SqX K ka H a xs ∧ SqX K kb H b ys ∧ (xs.length = i ∨ ys.length = i) ∧ i ≤ xs.length ∧ i ≤ ys.length⟩
theorem turn_zipM {P : Program} {w : World} {K : PySem.W.Frag} {elts : List Expr} {kk : Nat} {tpos : Pos} {ka kb : Bool} {a b z TI TO i1 i2 : Addr} (S : ZipSep2 z TI TO i1 i2 [i1, a] [i2, b]) (ha : a ≠ i1) (hb : b ≠ i2) :
    Turn P w K (.Tuple elts kk tpos) (ItzM K ka kb a b) [z, TI, TO, i1, i2] z (fun i h => IsZip h z TI TO .none ∧ IsTupOf2 h TI (.ref i1) (.ref i2) ∧ (∃ x y, IsTupOf2 h TO x y) ∧ ItX ka h i1 a i ∧ ItX kb h i2 b i) where
  mem := by simp
  obj := fun i h st c hc => by
    obtain ⟨hz, hTI, ⟨x, y, hTO⟩, h1, h2⟩ := st
    have e' : c = z ∨ c = TI ∨ c = TO ∨ c = i1 ∨ c = i2 := by simpa using hc
    rcases e' with q | q | q | q | q
    · rw [q]; exact ⟨_, hz, fun v q => nomatch q⟩
    · rw [q]; exact ⟨_, hTI, fun v q => nomatch q⟩
    · rw [q]; exact ⟨_, hTO, fun v q => nomatch q⟩
    · rw [q]
      cases ka <;> obtain ⟨o1, e1, _, d1⟩ := h1 <;> exact ⟨o1, e1, fun v q => by rw [d1] at q; cases q⟩
    · rw [q]
      cases kb <;> obtain ⟨o1, e1, _, d1⟩ := h2 <;> exact ⟨o1, e1, fun v q => by rw [d1] at q; cases q⟩
  keep := fun i h h' st k => by
    obtain ⟨hz, hTI, ⟨x, y, hTO⟩, h1, h2⟩ := st
    exact ⟨k z (by simp) _ hz, k TI (by simp) _ hTI, ⟨x, y, k TO (by simp) _ hTO⟩, h1.at fun o q => k i1 (by simp) o q, h2.at fun o q => k i2 (by simp) o q⟩
  item := by
    intro X hP hw hK hc i pins s σ H E I hf st hg
    subst hP hw hK
    obtain ⟨hz, hTI, ⟨x0, y0, hTO⟩, h1, h2⟩ := st
    obtain ⟨xs, ys, x, y, hqx, hqy, hx, hy⟩ := hg
    obtain ⟨its, rv, p, _⟩ := inv_seqX I hqx
    obtain ⟨its2, rv2, p2, _⟩ := inv_seqX I hqy
    obtain ⟨u, hu, ru⟩ := rv.get hx
    obtain ⟨u2, hu2, ru2⟩ := rv2.get hy
    have hzl : z < s.heap.objs.size := Heap.lt_size hz
    have l1 : i < its.toArray.size := by
      rw [List.size_toArray, ← rv.length]
      exact (List.getElem?_eq_some_iff.mp hx).1
    have l2 : i < its2.toArray.size := by
      rw [List.size_toArray, ← rv2.length]
      exact (List.getElem?_eq_some_iff.mp hy).1
    have e1l : ∃ o, s.heap.get? i1 = some o := let ⟨o, e, _⟩ := h1.ob; ⟨o, e⟩
    have e2l : ∃ o, s.heap.get? i2 = some o := let ⟨o, e, _⟩ := h2.ob; ⟨o, e⟩
    refine wpAny_pyNext_zipD2_item S (drX (A := X.A.in1) (I.ok.hd hc) ka i1 a ha its.toArray) (drX (A := X.A.in1) (I.ok.hd hc) kb i2 b hb its2.toArray) hz hTI hTO ⟨h1, p⟩ ⟨h2, p2⟩ l1 l2 fun y1 y2 h' tk hP1 hP2 z' TO' st1' st2' hT hsz hk => ?_
    have eu1 : y1 = u := by
      have h1 : its.toArray[i]? = some u := by simpa using hu
      rw [h1] at hP1
      exact (Option.some.inj hP1).symm
    have eu2 : y2 = u2 := by
      have h1 : its2.toArray[i]? = some u2 := by simpa using hu2
      rw [h1] at hP2
      exact (Option.some.inj hP2).symm
    subst eu1 eu2
    refine ⟨_, rfl, wpAny_letOwnedTupleGo_zip (s := { s with heap := h', toks := tk }) z' fun h'' z'' sb => ?_⟩
    have hT2 : h''.get? s.heap.objs.size = some { cls := .type "tuple", data := .seq #[y1, y2] } := (sb.2 _ (Nat.ne_of_gt hzl)).trans hT
    have new : ObjOk X.prog X.w (upd H s.heap.objs.size (.tup [x, y])) h'' s.heap.objs.size (.tup [x, y]) :=
      ⟨by show 2 ≤ sizeLine; decide, [y1, y2], .cons ru (.cons ru2 .nil), ⟨_, hT2, rfl, _, rfl⟩⟩
    have I1 : Inv X pins σ (upd H s.heap.objs.size (.tup [x, y])) { s with heap := h'', toks := tk } :=
      I.turnedNew (t' := tk) (ch := [z, TI, TO, i1, i2]) (fun c o hb q => (sb.2 c (fun q' => hb (by simp [q']))).trans (hk c o (fun q' => hb (by simp [q'])) (fun q' => hb (by simp [q'])) (fun q' => hb (by simp [q'])) (fun q' => hb (by simp [q'])) q)) hf (Nat.le_refl _) new
    refine ⟨.ref s.heap.objs.size, _, I1, rfl, ⟨_, x, y, rfl, I.hok.fresh (Nat.le_refl _), rfl, fun l hl => by rw [inv_injX I hl hqx]; exact hx, fun l hl => by rw [inv_injX I hl hqy]; exact hy⟩, ⟨z'', ?_, ⟨y1, y2, ?_⟩, ?_, ?_⟩, fun c hcm => ?_⟩
    · exact (sb.2 _ S.TIz).trans (hk _ _ S.TIz S.TITO S.TIi1 S.TIi2 hTI)
    · exact (sb.2 _ S.TOz).trans TO'
    · exact st1'.1.at fun o q => (sb.2 _ (Ne.symm S.zi1)).trans q
    · exact st2'.1.at fun o q => (sb.2 _ (Ne.symm S.zi2)).trans q
    · have hlt : c < s.heap.objs.size := by
        have e' : c = z ∨ c = TI ∨ c = TO ∨ c = i1 ∨ c = i2 := by simpa using hcm
        rcases e' with q | q | q | q | q
        · rw [q]; exact hzl
        · rw [q]; exact Heap.lt_size hTI
        · rw [q]; exact Heap.lt_size hTO
        · rw [q]; obtain ⟨_, e1⟩ := e1l; exact Heap.lt_size e1
        · rw [q]; obtain ⟨_, e2⟩ := e2l; exact Heap.lt_size e2
      rw [upd_ne (Nat.ne_of_lt hlt)]
      exact (hf c hcm).1
  done := by
    intro X hP hw hK hc i pins s σ H E I hf st hg
    subst hP hw hK
    obtain ⟨hz, hTI, ⟨x0, y0, hTO⟩, h1, h2⟩ := st
    obtain ⟨xs, ys, hqx, hqy, hend, hi1, hi2⟩ := hg
    obtain ⟨its, rv, p, _⟩ := inv_seqX I hqx
    obtain ⟨its2, rv2, p2, _⟩ := inv_seqX I hqy
    have l1 := rv.length
    have l2 := rv2.length
    exact wpAny_pyNext_zipD2_end S (drX (A := X.A.in1) (I.ok.hd hc) ka i1 a ha its.toArray) (drX (A := X.A.in1) (I.ok.hd hc) kb i2 b hb its2.toArray) hz hTI hTO ⟨h1, p⟩ ⟨h2, p2⟩ (by simp; omega) (by simp; omega) (by simp; omega) fun h' tk hk => ⟨rfl, I.turnedL (t' := tk) (ch := [z, TI, TO, i1, i2]) (fun c o hb q =>
      hk c o (fun q' => hb (by simp [q'])) (fun q' => hb (by simp [q'])) (fun q' => hb (by simp [q'])) (fun q' => hb (by simp [q'])) q) hf⟩
  self := fun A i s Q E st h => wpAny_pyIter_zip st.1 h
def iZipM (K : PySem.W.Frag) (ka kb : Bool) (ta : TA) : TI := fun σ H R => ta σ H fun vs H1 => ∃ a b xs ys, vs = [.ref a, .ref b] ∧ SqX K ka H1 a xs ∧ SqX K kb H1 b ys ∧ R (ItzM K ka kb a b) H1
theorem piZipM {X : Cx} (K : PySem.W.Frag) (ka kb : Bool) {e e2 : Expr} {ta : TA} {p pos tpos : Pos} {elts : List Expr} {kk : Nat} (hm : X.mg "zip" = none) (ha : PA X [e, e2] ta) (hK : X.K = K := by rfl) (hg : Gl X "zip" := by rfl)
    (hs : starEach [e, e2] X.env = (false, eval e X.env) :: starEach [e2] X.env := by rfl) (hpl : (backTo pos (starEach [e2] X.env)).any (·.1) = false := by rfl) :
    PI X (.Tuple elts kk tpos) (.Call (.Name "zip" p) [e, e2] [] pos) (iZipM K ka kb ta) := by
  subst hK
  refine ⟨fun pins s σ H R I h => ?_⟩
  refine Call_ (ld_blt I hg hm PyProof.Rows.boot_zip (PyProof.Rows.callWith_type1 (thn (ha.run pos pins s σ H _ I h) fun us s1 ⟨vs, H1, I1, r1, q1⟩ => ?_) hs hpl))
  obtain ⟨a, b, xs, ys, ex, hqx, hqy, q⟩ := q1
  subst ex
  cases r1 with
  | cons r rr =>
    cases rr with
    | cons r' rr =>
      cases rr
      cases r
      cases r'
      have fresh5 : ∀ c, c ∈ [s1.heap.objs.size + 4, s1.heap.objs.size + 2, s1.heap.objs.size + 3, s1.heap.objs.size, s1.heap.objs.size + 1] → FpOk X pins H1 c := fun c hcm => by
        have e' : c = s1.heap.objs.size + 4 ∨ c = s1.heap.objs.size + 2 ∨ c = s1.heap.objs.size + 3 ∨ c = s1.heap.objs.size ∨ c = s1.heap.objs.size + 1 := by simpa using hcm
        have hle : s1.heap.objs.size ≤ c := by
          rcases e' with z | z | z | z | z
          · rw [z]; exact Nat.le_add_right _ _
          · rw [z]; exact Nat.le_add_right _ _
          · rw [z]; exact Nat.le_add_right _ _
          · rw [z]; exact Nat.le_refl _
          · rw [z]; exact Nat.le_add_right _ _
        exact I1.fpOk hle (I1.hok.fresh hle)
      obtain ⟨its, rv, p1, hal⟩ := inv_seqX I1 hqx
      obtain ⟨its2, rv2, p2, hbl⟩ := inv_seqX I1 hqy
      refine zip_begins2 (begX ka a its.toArray) (begX kb b its2.toArray) p1 p2 fun h' hz hTI hTO h1 h2 hsz hk => wpAny_pyIter_zip hz ?_
      have I2 : Inv X pins σ H1 { s1 with heap := h' } := I1.kept (t' := s1.toks) hk
      have S : ZipSep2 (s1.heap.objs.size + 4) (s1.heap.objs.size + 2) (s1.heap.objs.size + 3) s1.heap.objs.size (s1.heap.objs.size + 1) [s1.heap.objs.size, a] [s1.heap.objs.size + 1, b] :=
        zip_sep2 (fun c hc => by rw [List.mem_singleton.mp hc]; exact hal) (fun c hc => by rw [List.mem_singleton.mp hc]; exact hbl)
      exact ⟨s1.heap.objs.size + 4, [s1.heap.objs.size + 4, s1.heap.objs.size + 2, s1.heap.objs.size + 3, s1.heap.objs.size, s1.heap.objs.size + 1], _, _, H1, rfl, I2, turn_zipM S (Nat.ne_of_lt hal) (Nat.ne_of_lt (Nat.lt_succ_of_lt hbl)), ⟨hz, hTI, ⟨_, _, hTO⟩, itX0 h1, itX0 h2⟩, fresh5, q⟩
theorem walk_zipM {K : PySem.W.Frag} {ka kb : Bool} {a b : Addr} {xs ys : List V} {n : Nat} (hn : n = min xs.length ys.length) : Walk (ItzM K ka kb a b) n (fun H => SqX K ka H a xs ∧ SqX K kb H b ys) (YPair (fun i => xs[i]?) (fun i => ys[i]?)) := by
  subst hn
  refine ⟨fun i _ hi q => ⟨xs, ys, xs[i]'(by omega), ys[i]'(by omega), q.1, q.2, List.getElem?_eq_getElem _, List.getElem?_eq_getElem _⟩, fun _ q => ⟨xs, ys, q.1, q.2, by omega, by omega, by omega⟩, fun i H v H' _ q y => ?_⟩
  obtain ⟨T, x, z, e, nT, eH, g1, g2⟩ := y
  exact ⟨T, x, z, e, nT, eH, g1 xs q.1, g2 ys q.2⟩
end WK
/-! ## parting, order of keys, words of a shape -/
namespace WK
open PySem PySem.Spec PyProof.Rows L2
theorem xor_zero_iff {x y : Nat} : x ^^^ y = 0 ↔ x = y := by
  constructor
  · intro h
    have e : x ^^^ (x ^^^ y) = x := by rw [h, Nat.xor_zero]
    rw [← Nat.xor_assoc, Nat.xor_self, Nat.zero_xor] at e
    exact e.symm
  · intro h
    rw [h, Nat.xor_self]
theorem xor_lt_iff {a b m : Nat} : (a ^^^ b) < 2 ^ m ↔ a / 2 ^ m = b / 2 ^ m := by
  rw [← xor_zero_iff, ← Nat.xor_div_two_pow, Nat.div_eq_zero_iff]
  have := Nat.two_pow_pos m
  omega
/-- the first step at which two keys differ -/
structure IsPart (N : Nat) (K1 K2 : Int) (j : Nat) : Prop where
  lt : j < N
  ne : K1 / 2 ^ (N - 1 - j) ≠ K2 / 2 ^ (N - 1 - j)
  eq : ∀ s, s < j → K1 / 2 ^ (N - 1 - s) = K2 / 2 ^ (N - 1 - s)
theorem part_search (N : Nat) (K1 K2 : Int) : ∀ i, i ≤ N → (∀ s, s < i → K1 / 2 ^ (N - 1 - s) = K2 / 2 ^ (N - 1 - s)) ∨ ∃ j, j < i ∧ IsPart N K1 K2 j
  | 0, _ => .inl fun s hs => absurd hs (by omega)
  | i + 1, h => by
    rcases part_search N K1 K2 i (by omega) with e | ⟨j, hj, hp⟩
    · by_cases d : K1 / 2 ^ (N - 1 - i) = K2 / 2 ^ (N - 1 - i)
      · refine .inl fun s hs => ?_
        by_cases z : s = i
        · rw [z]
          exact d
        · exact e s (by omega)
      · exact .inr ⟨i, by omega, by omega, d, e⟩
    · exact .inr ⟨j, by omega, hp⟩
theorem ediv_mono_eq {K1 K2 : Int} {a b : Nat} (h : K1 / 2 ^ a = K2 / 2 ^ a) (hab : a ≤ b) : K1 / 2 ^ b = K2 / 2 ^ b := by
  obtain ⟨c, rfl⟩ := Nat.exists_eq_add_of_le hab
  rw [Int.pow_add, ← Int.ediv_ediv_of_nonneg (Int.le_of_lt (Int.pow_pos (by decide))), ← Int.ediv_ediv_of_nonneg (Int.le_of_lt (Int.pow_pos (by decide))), h]
theorem IsPart.uniq {N : Nat} {K1 K2 : Int} {i j : Nat} (h : IsPart N K1 K2 i) (g : IsPart N K1 K2 j) : i = j := by
  rcases Nat.lt_trichotomy i j with l | l | l
  · exact absurd (g.eq i l) h.ne
  · exact l
  · exact absurd (h.eq j l) g.ne
theorem IsPart.symm {N : Nat} {K1 K2 : Int} {j : Nat} (h : IsPart N K1 K2 j) : IsPart N K2 K1 j := ⟨h.lt, h.ne.symm, fun s hs => (h.eq s hs).symm⟩
theorem part_ex {N : Nat} {K1 K2 : Int} (h : K1 ≠ K2) (hN : 0 < N) : ∃ j, IsPart N K1 K2 j := by
  rcases part_search N K1 K2 N (Nat.le_refl _) with e | ⟨j, _, hp⟩
  · have := e (N - 1) (by omega)
    rw [show N - 1 - (N - 1) = 0 by omega, Int.pow_zero, Int.ediv_one, Int.ediv_one] at this
    exact absurd this h
  · exact ⟨j, hp⟩
/-- the bits of what is apart -/
theorem part_bits {N j B : Nat} {a b : Nat} (hb : ∀ m, B ≤ m ↔ (a ^^^ b) < 2 ^ m) (h : IsPart N (a : Int) (b : Int) j) (ha : a < 2 ^ N) (hb2 : b < 2 ^ N) : B = N - j := by
  have cast : ∀ (x m : Nat), (x : Int) / 2 ^ m = ((x / 2 ^ m : Nat) : Int) := fun x m => by
    rw [Int.natCast_ediv]
    congr 1
  have h1 := h.ne
  have hlt := h.lt
  rw [cast, cast] at h1
  have h2 : ¬ B ≤ N - 1 - j := fun z => h1 (by rw [xor_lt_iff.mp ((hb _).mp z)])
  have h3 : B ≤ N - j := by
    refine (hb _).mpr (xor_lt_iff.mpr ?_)
    by_cases z : j = 0
    · rw [z, Nat.sub_zero, Nat.div_eq_of_lt ha, Nat.div_eq_of_lt hb2]
    · have := h.eq (j - 1) (by omega)
      rw [cast, cast, show N - 1 - (j - 1) = N - j by omega] at this
      exact Int.ofNat.inj this
  omega
/-! ### cells in order, keys in order -/
theorem key_mono {l : List Nat} {n : Nat} {cs ds : List Int} (hc : CellOk l n cs) (hd : CellOk l n ds) (hl : ∀ c ∈ l, 97 ≤ c ∧ c < 97 + n) (h : ∀ k, k < n → cs.getD k 0 ≤ ds.getD k 0) :
    ∀ j, j ≤ l.length → keyN l cs j < keyN l ds j ∨ (keyN l cs j = keyN l ds j ∧ ∀ k, k < n → cs.getD k 0 / 2 ^ (l.count (97 + k) - (l.take j).count (97 + k)) = ds.getD k 0 / 2 ^ (l.count (97 + k) - (l.take j).count (97 + k)))
  | 0, _ => .inr ⟨rfl, fun k hk => by
      rw [List.take_zero, List.count_nil, Nat.sub_zero, Int.ediv_eq_zero_of_lt (hc.lo k hk) (hc.hi k hk), Int.ediv_eq_zero_of_lt (hd.lo k hk) (hd.hi k hk)]⟩
  | j + 1, hj => by
    have hj' : j < l.length := hj
    have hg : l.getD j 0 = l[j] := by rw [List.getD_eq_getElem?_getD, List.getElem?_eq_getElem hj']; rfl
    obtain ⟨c1, c2⟩ := hl _ (List.getElem_mem hj')
    have hlt := cnt_lt hj'
    rw [← hg] at c1 c2 hlt
    obtain ⟨k, hk⟩ : ∃ k, l.getD j 0 = 97 + k := ⟨l.getD j 0 - 97, by omega⟩
    have hkn : k < n := by omega
    have hmono := Int.ediv_le_ediv (c := 2 ^ (l.count (97 + k) - (l.take j).count (97 + k) - 1)) (Int.pow_pos (by decide)) (h k hkn)
    rw [keyN, keyN, hk, show 97 + k - 97 = k by omega]
    rw [hk] at hlt
    rcases key_mono hc hd hl h j (by omega) with a | ⟨a, b⟩
    · left
      generalize cs.getD k 0 / 2 ^ (l.count (97 + k) - (l.take j).count (97 + k) - 1) = X
      generalize ds.getD k 0 / 2 ^ (l.count (97 + k) - (l.take j).count (97 + k) - 1) = Y
      omega
    · have bk := b k hkn
      rw [show l.count (97 + k) - (l.take j).count (97 + k) = (l.count (97 + k) - (l.take j).count (97 + k) - 1) + 1 by omega, ediv_pow_succ', ediv_pow_succ'] at bk
      by_cases e : cs.getD k 0 / 2 ^ (l.count (97 + k) - (l.take j).count (97 + k) - 1) = ds.getD k 0 / 2 ^ (l.count (97 + k) - (l.take j).count (97 + k) - 1)
      · right
        refine ⟨by rw [a, e], fun i hi => ?_⟩
        rw [count_step hj', hk]
        by_cases z : i = k
        · subst z
          rw [if_pos rfl, ← Nat.sub_sub]
          exact e
        · rw [if_neg (by omega), Nat.add_zero]
          exact b i hi
      · left
        generalize cs.getD k 0 / 2 ^ (l.count (97 + k) - (l.take j).count (97 + k) - 1) = X at *
        generalize ds.getD k 0 / 2 ^ (l.count (97 + k) - (l.take j).count (97 + k) - 1) = Y at *
        omega
theorem key_lt {l : List Nat} {n : Nat} {cs ds : List Int} (hc : CellOk l n cs) (hd : CellOk l n ds) (hl : ∀ c ∈ l, 97 ≤ c ∧ c < 97 + n) (h : ∀ k, k < n → cs.getD k 0 ≤ ds.getD k 0) (hne : cs ≠ ds) : keyN l cs l.length < keyN l ds l.length := by
  rcases key_mono hc hd hl h l.length (Nat.le_refl _) with a | ⟨a, _⟩
  · exact a
  · exact absurd (keyN_inj hc hd a) hne
theorem key_axis {l : List Nat} {cs : List Int} {k c : Nat} (hp : l.take c = List.replicate c (97 + k)) (hc : l.count (97 + k) = c) (hcl : c ≤ l.length) (h0 : 0 ≤ cs.getD k 0) (h1 : cs.getD k 0 < 2 ^ c) : ∀ j, j ≤ c → keyN l cs j = cs.getD k 0 / 2 ^ (c - j)
  | 0, _ => by rw [keyN, Nat.sub_zero, Int.ediv_eq_zero_of_lt h0 h1]
  | j + 1, hj => by
    have ih := key_axis hp hc hcl h0 h1 j (by omega)
    have hg : l.getD j 0 = 97 + k := by
      have : l[j]? = (l.take c)[j]? := by rw [List.getElem?_take_of_lt (by omega)]
      rw [List.getD_eq_getElem?_getD, this, hp, List.getElem?_replicate, if_pos (by omega)]
      rfl
    have ht : (l.take j).count (97 + k) = j := by
      rw [show l.take j = (l.take c).take j by rw [List.take_take, Nat.min_eq_left (by omega)], hp, List.take_replicate, List.count_replicate_self, Nat.min_eq_left (by omega)]
    rw [keyN, hg, ih, ht, hc, show 97 + k - 97 = k by omega]
    obtain ⟨m, rfl⟩ : ∃ m, c = j + 1 + m := ⟨c - (j + 1), by omega⟩
    rw [show j + 1 + m - j = m + 1 by omega, show m + 1 - 1 = m by omega, show j + 1 + m - (j + 1) = m by omega, ediv_pow_succ']
    generalize cs.getD k 0 / 2 ^ m = X
    omega
theorem key_axis_lt {l : List Nat} {cs ds : List Int} {k c : Nat} (hp : l.take c = List.replicate c (97 + k)) (hc : l.count (97 + k) = c) (hcl : c ≤ l.length) (h0 : 0 ≤ cs.getD k 0) (h1 : ds.getD k 0 < 2 ^ c) (h : cs.getD k 0 < ds.getD k 0) : keyN l cs l.length < keyN l ds l.length := by
  have a := key_axis (cs := cs) hp hc hcl h0 (by omega) c (Nat.le_refl _)
  have b := key_axis (cs := ds) hp hc hcl (by omega) h1 c (Nat.le_refl _)
  rw [Nat.sub_self, Int.pow_zero, Int.ediv_one] at a b
  have a2 := keyN_div l cs c (l.length - c)
  have b2 := keyN_div l ds c (l.length - c)
  rw [show c + (l.length - c) = l.length by omega] at a2 b2
  by_cases z : keyN l cs l.length < keyN l ds l.length
  · exact z
  · have := Int.ediv_le_ediv (c := 2 ^ (l.length - c)) (Int.pow_pos (by decide)) (Int.not_lt.mp z)
    omega
/-! ### all words of a shape -/
def words : Nat → List Int → List (List Nat)
  | 0, _ => [[]]
  | m + 1, sh => (List.range sh.length).flatMap fun k => if 0 < sh.getD k 0 then (words m (sh.set k (sh.getD k 0 - 1))).map (fun l => (97 + k) :: l) else []
theorem set_getD {sh : List Int} {k j : Nat} {v : Int} (hk : k < sh.length) : (sh.set k v).getD j 0 = if j = k then v else sh.getD j 0 := by
  by_cases e : j = k
  · subst e
    rw [if_pos rfl, List.getD_eq_getElem?_getD, List.getElem?_set_self hk]
    rfl
  · rw [if_neg e, List.getD_eq_getElem?_getD, List.getElem?_set_ne (Ne.symm e), ← List.getD_eq_getElem?_getD]
theorem sum_setD : ∀ {sh : List Int} {k : Nat} {v : Int}, k < sh.length → (sh.set k v).sum = sh.sum - sh.getD k 0 + v
  | x :: xs, 0, v, _ => by
    show v + xs.sum = x + xs.sum - x + v
    omega
  | x :: xs, k + 1, v, h => by
    have := sum_setD (sh := xs) (k := k) (v := v) (by simpa using h)
    show x + (xs.set k v).sum = x + xs.sum - xs.getD k 0 + v
    omega
structure NN (m : Nat) (sh : List Int) : Prop where
  nn : ∀ x ∈ sh, 0 ≤ x
  sm : sh.sum = (m : Int)
theorem NN.step {m k : Nat} {sh : List Int} (h : NN (m + 1) sh) (hk : k < sh.length) (hp : 0 < sh.getD k 0) : NN m (sh.set k (sh.getD k 0 - 1)) := by
  refine ⟨fun x hx => ?_, ?_⟩
  · obtain ⟨j, hj, rfl⟩ := memG hx
    rw [List.length_set] at hj
    rw [set_getD hk]
    split
    · omega
    · exact h.nn _ (gMem hj)
  · rw [sum_setD hk, h.sm]
    omega
theorem words_ok : ∀ (m : Nat) (sh : List Int), NN m sh → ∀ l ∈ words m sh, l.length = m ∧ (∀ c ∈ l, 97 ≤ c ∧ c < 97 + sh.length) ∧ ∀ k, k < sh.length → (l.count (97 + k) : Int) = sh.getD k 0
  | 0, sh, h, l, hl => by
    rw [List.mem_singleton.mp hl]
    refine ⟨rfl, fun c hc => (by cases hc), fun k hk => ?_⟩
    have z := h.nn _ (gMem hk)
    have : sh.getD k 0 = 0 := by
      rcases Int.lt_or_eq_of_le z with g | g
      · exfalso
        have h1 : sh = sh.take k ++ sh.drop k := (List.take_append_drop k sh).symm
        have h2 : sh.drop k = sh[k] :: sh.drop (k + 1) := List.drop_eq_getElem_cons hk
        have h3 := h.sm
        rw [h1, h2, List.sum_append, List.sum_cons] at h3
        have a := sumNN (sh.take k) fun x hx => h.nn x (List.mem_of_mem_take hx)
        have b := sumNN (sh.drop (k + 1)) fun x hx => h.nn x (List.mem_of_mem_drop hx)
        have : sh.getD k 0 = sh[k] := by rw [List.getD_eq_getElem?_getD, List.getElem?_eq_getElem hk]; rfl
        omega
      · exact g.symm
    rw [this]
    rfl
  | m + 1, sh, h, l, hl => by
    rw [words, List.mem_flatMap] at hl
    obtain ⟨k, hk, hl⟩ := hl
    have hk' := List.mem_range.mp hk
    split at hl
    · rename_i hp
      obtain ⟨l', hl', rfl⟩ := List.mem_map.mp hl
      obtain ⟨a, b, c⟩ := words_ok m _ (h.step hk' hp) l' hl'
      rw [List.length_set] at b c
      refine ⟨by rw [List.length_cons, a], fun c' hc' => ?_, fun j hj => ?_⟩
      · rcases List.mem_cons.mp hc' with e | e
        · omega
        · exact b c' e
      · have cj := c j hj
        rw [set_getD hk'] at cj
        rw [List.count_cons]
        by_cases e : j = k
        · subst e
          rw [if_pos rfl] at cj
          rw [if_pos (beq_self_eq_true _)]
          omega
        · rw [if_neg e] at cj
          rw [if_neg (by rw [beq_iff_eq]; omega)]
          omega
    · cases hl
theorem words_cons {m k : Nat} {sh : List Int} {l : List Nat} (hk : k < sh.length) (hp : 0 < sh.getD k 0) (hl : l ∈ words m (sh.set k (sh.getD k 0 - 1))) : (97 + k) :: l ∈ words (m + 1) sh := by
  rw [words, List.mem_flatMap]
  refine ⟨k, List.mem_range.mpr hk, ?_⟩
  rw [if_pos hp]
  exact List.mem_map.mpr ⟨l, hl, rfl⟩
theorem words_ne : ∀ (m : Nat) (sh : List Int), NN m sh → ∃ l, l ∈ words m sh
  | 0, _, _ => ⟨[], List.mem_singleton.mpr rfl⟩
  | m + 1, sh, h => by
    obtain ⟨k, hk, hp⟩ := sum_pos_ex sh h.nn (by rw [h.sm]; omega)
    obtain ⟨l, hl⟩ := words_ne m _ (h.step hk hp)
    exact ⟨_, words_cons hk hp hl⟩
theorem words_lead : ∀ (c m : Nat) (sh : List Int) (k : Nat), NN m sh → k < sh.length → sh.getD k 0 = (c : Int) → ∃ l, l ∈ words m sh ∧ l.take c = List.replicate c (97 + k)
  | 0, m, sh, k, h, _, _ => by
    obtain ⟨l, hl⟩ := words_ne m sh h
    exact ⟨l, hl, by rw [List.take_zero]; rfl⟩
  | c + 1, 0, sh, k, h, hk, e => by
    exfalso
    have h1 := words_ok 0 sh h [] (List.mem_singleton.mpr rfl)
    have := h1.2.2 k hk
    rw [List.count_nil] at this
    omega
  | c + 1, m + 1, sh, k, h, hk, e => by
    have hp : 0 < sh.getD k 0 := by omega
    obtain ⟨l, hl, ht⟩ := words_lead c m _ k (h.step hk hp) (by rw [List.length_set]; exact hk) (by rw [set_getD hk, if_pos rfl]; omega)
    exact ⟨_, words_cons hk hp hl, by rw [List.take_succ_cons, ht, List.replicate_succ]⟩
theorem flatMap_len_le {α : Type} (f : Nat → List α) (B : Nat) : ∀ n : Nat, (∀ k, k < n → (f k).length ≤ B) → ((List.range n).flatMap f).length ≤ n * B
  | 0, _ => Nat.zero_le _
  | n + 1, h => by
    rw [List.range_succ, List.flatMap_append, List.length_append]
    have := flatMap_len_le f B n fun k hk => h k (by omega)
    have h2 := h n (by omega)
    simp only [List.flatMap_cons, List.flatMap_nil, List.append_nil]
    rw [Nat.succ_mul]
    omega
theorem words_len : ∀ (m : Nat) (sh : List Int), sh.length ≤ 4 → (words m sh).length ≤ 4 ^ m
  | 0, _, _ => Nat.le_refl _
  | m + 1, sh, h => by
    rw [words]
    refine Nat.le_trans (flatMap_len_le _ (4 ^ m) _ fun k hk => ?_) ?_
    · split
      · rw [List.length_map]
        exact words_len m _ (by rw [List.length_set]; exact h)
      · exact Nat.zero_le _
    · rw [Nat.pow_succ, Nat.mul_comm]
      exact Nat.mul_le_mul_left _ h
theorem eqv_ints_iff : ∀ xs ys : List Int, PyData.eqvAll (xs.map .int) (ys.map .int) = decide (xs = ys)
  | [], [] => rfl
  | [], y :: ys => rfl
  | x :: xs, [] => rfl
  | x :: xs, y :: ys => by
    rw [List.map_cons, List.map_cons, PyData.eqvAll, PyData.eqv, eqv_ints_iff xs ys]
    by_cases h : x = y
    · subst h
      by_cases g : xs = ys
      · subst g
        simp
      · rw [decide_eq_false g, decide_eq_false (fun z => g (List.cons.inj z).2)]
        simp
    · rw [decide_eq_false (fun z => h (List.cons.inj z).1), beq_eq_false_iff_ne.mpr h]
      rfl
/-- two tuples of ints: equal exactly if the ints are -/
theorem eqT_do {K : PySem.W.Frag} {a b : Addr} {xs ys : List Int} {H : Hp} {Q : VK} (ha : SqT K H a (xs.map V.int)) (hb : SqT K H b (ys.map V.int)) (q : Q (.bl (decide (xs = ys))) H) : rEqD K (.ref a) (.ref b) H Q := by
  refine ⟨_, _, dp_tup ha, dp_tup hb, LOk.intsT.shaped, LOk.intsT.shaped, ?_⟩
  rw [PyData.eqv, eqv_ints_iff]
  exact q
/-! ### one place of a tuple exchanged -/
theorem cut_head {xs : List V} {i : Nat} (h : i ≤ xs.length) : cutV xs none (some (i : Int)) = xs.take i := by
  unfold cutV
  rw [HT.sIx_none, HT.sIx_nat, List.drop_zero, Nat.sub_zero, Nat.min_eq_left h]
theorem cut_tail {xs : List V} {i : Nat} (h : i ≤ xs.length) : cutV xs (some (i : Int)) none = xs.drop i := by
  unfold cutV
  rw [HT.sIx_none, HT.sIx_nat, Nat.min_eq_left h, List.take_of_length_le (by rw [List.length_drop]; exact Nat.le_refl _)]
theorem cutT_do {K : PySem.W.Frag} {H : Hp} {p : Addr} {xs : List V} {i : Nat} {Q : VK} (hp : SqT K H p xs) (hi : i < xs.length) (q : ∀ r, H r = none → Q (.ref r) (upd H r (.tup (xs.take i)))) : rSlT K (.ref p) none (some (i : Int)) H Q := by
  refine ⟨p, xs, rfl, hp, fun h => ?_, fun r nr => ?_⟩
  · have := h.2
    rw [HT.sIx_nat] at this
    omega
  · rw [cut_head (by omega)]
    exact q r nr
theorem dropT_do {K : PySem.W.Frag} {H : Hp} {p : Addr} {xs : List V} {i : Nat} {Q : VK} (hp : SqT K H p xs) (hi : i < xs.length) (q : ∀ r, H r = none → Q (.ref r) (upd H r (.tup (xs.drop (i + 1))))) : rSlT K (.ref p) (some ((i : Int) + 1)) none H Q := by
  have e : (i : Int) + 1 = ((i + 1 : Nat) : Int) := by omega
  rw [e]
  refine ⟨p, xs, rfl, hp, fun h => ?_, fun r nr => ?_⟩
  · have := h.1
    rw [HT.sIx_nat] at this
    omega
  · rw [cut_tail (by omega)]
    exact q r nr
theorem catA2_do {K : PySem.W.Frag} {H : Hp} {a b : Addr} {xs ys : List V} {Q : VK} (ha : H a = some (.tup xs)) (hb : H b = some (.tup ys)) (hl : xs.length + ys.length ≤ 1000) (q : ∀ r H', Same H H' → H' r = some (.tup (xs ++ ys)) → Q (.ref r) H') : rCatA K (.ref a) (.ref b) H Q := by
  refine ⟨a, b, xs, ys, rfl, rfl, sqT_of ha, sqT_of hb, le_size (by omega), fun e => ?_, fun _ e => ?_, fun _ _ p np => ?_⟩
  · subst e
    exact q b H (fun _ _ h => h) hb
  · subst e
    exact q a H (fun _ _ h => h) (by rw [List.append_nil]; exact ha)
  · exact q p _ (same_new np) upd_same
theorem set_parts {xs : List V} {i : Nat} {v : V} (h : i < xs.length) : xs.take i ++ [v] ++ xs.drop (i + 1) = xs.set i v := by
  rw [List.set_eq_take_append_cons_drop, if_pos h, List.append_assoc]
  rfl
/-- x[:i] + (v,) + x[i + 1:] -/
theorem put_do {K : PySem.W.Frag} {H : Hp} {p : Addr} {xs : List V} {i : Nat} {v : V} {Q : VK} (hp : SqT K H p xs) (hi : i < xs.length) (hl : xs.length ≤ 400) (q : ∀ r H', Same H H' → H' r = some (.tup (xs.set i v)) → Q (.ref r) H') :
    rSlT K (.ref p) none (some (i : Int)) H fun x H1 => 1 ≤ sizeLine ∧ ∀ p1, H1 p1 = none → rCatA K x (.ref p1) (upd H1 p1 (.tup [v])) fun x H1 => rSlT K (.ref p) (some ((i : Int) + 1)) none H1 fun y H2 => rCatA K x y H2 Q :=
  cutT_do hp hi fun r nr => ⟨le_size (by decide), fun p1 np1 => catA2_do (upd_new np1 upd_same) upd_same (by rw [List.length_take, List.length_singleton]; omega) fun r2 H2 s2 h2 =>
    dropT_do ((((same_new nr).new np1).trans s2).sqT hp) hi fun r3 nr3 => catA2_do (upd_new nr3 h2) upd_same (by rw [List.length_append, List.length_take, List.length_drop, List.length_singleton]; omega) fun r4 H4 s4 h4 =>
      q r4 H4 ((((same_new nr).new np1).trans s2).new nr3 |>.trans s4) (by rw [h4, set_parts hi])⟩
theorem map_set_int {xs : List Int} {i : Nat} {v : Int} : (xs.map V.int).set i (.int v) = (xs.set i v).map V.int := by
  rw [List.map_set]
/-! ### what is told of two cells -/
def exLt (cs ds : List Int) (n : Nat) : Bool := (List.range n).any fun k => decide (cs.getD k 0 < ds.getD k 0)
def precS (cs ds : List Int) (n : Nat) : Str := if cs = ds then "same" else if exLt cs ds n = true ∧ exLt ds cs n = true then "sometimes" else if exLt cs ds n = true then "always" else "never"
theorem exLt_iff {cs ds : List Int} {n : Nat} : exLt cs ds n = true ↔ ∃ k, k < n ∧ cs.getD k 0 < ds.getD k 0 := by
  unfold exLt
  simp only [List.any_eq_true, List.mem_range, decide_eq_true_eq]
theorem getD_ext {cs ds : List Int} {n : Nat} (h1 : cs.length = n) (h2 : ds.length = n) (h : ∀ k, k < n → cs.getD k 0 = ds.getD k 0) : cs = ds := by
  apply List.ext_getElem?
  intro k
  by_cases hk : k < n
  · have := h k hk
    rw [List.getD_eq_getElem?_getD, List.getD_eq_getElem?_getD, List.getElem?_eq_getElem (by omega), List.getElem?_eq_getElem (by omega)] at this
    rw [List.getElem?_eq_getElem (by omega), List.getElem?_eq_getElem (by omega)]
    exact congrArg some this
  · rw [List.getElem?_eq_none (by omega), List.getElem?_eq_none (by omega)]
theorem exLt_or {cs ds : List Int} {n : Nat} (h1 : cs.length = n) (h2 : ds.length = n) (h : cs ≠ ds) : exLt cs ds n = true ∨ exLt ds cs n = true := by
  by_cases a : exLt cs ds n = true
  · exact .inl a
  · by_cases b : exLt ds cs n = true
    · exact .inr b
    · exfalso
      apply h
      refine getD_ext h1 h2 fun k hk => ?_
      have h3 : ¬ cs.getD k 0 < ds.getD k 0 := fun z => a (exLt_iff.mpr ⟨k, hk, z⟩)
      have h4 : ¬ ds.getD k 0 < cs.getD k 0 := fun z => b (exLt_iff.mpr ⟨k, hk, z⟩)
      omega
theorem prec_cases (cs ds : List Int) {n : Nat} (h1 : cs.length = n) (h2 : ds.length = n) : (precS cs ds n = "same" ∧ precS ds cs n = "same") ∨ (precS cs ds n = "always" ∧ precS ds cs n = "never") ∨ (precS cs ds n = "never" ∧ precS ds cs n = "always") ∨ (precS cs ds n = "sometimes" ∧ precS ds cs n = "sometimes") := by
  unfold precS
  by_cases e : cs = ds
  · left
    rw [if_pos e, if_pos e.symm]
    exact ⟨rfl, rfl⟩
  · rw [if_neg e, if_neg (Ne.symm e)]
    have h := exLt_or h1 h2 e
    cases a : exLt cs ds n <;> cases b : exLt ds cs n <;> simp_all
theorem inV_bls (b : Bool) : ∀ bs : List Bool, inV (.bl b) (bs.map V.bl) = bs.any (· == b)
  | [] => rfl
  | c :: bs => by
    have := inV_bls b bs
    unfold inV at this ⊢
    rw [List.map_cons, List.any_cons, List.any_cons, this]
    cases b <;> cases c <;> rfl
theorem flat_bls (bs : List Bool) : (bs.map V.bl).all flatV = true := by
  rw [List.all_eq_true]
  intro x hx
  obtain ⟨i, _, rfl⟩ := List.mem_map.mp hx
  rfl
theorem words_wok {m : Nat} {sh : List Int} (h : ShOk sh) (hN : NN m sh) {l : List Nat} (hl : l ∈ words m sh) : WOk l sh.length ∧ cnts l sh.length = sh := by
  obtain ⟨a, b, c⟩ := words_ok m sh hN l hl
  refine lft_done h b (by rw [a, hN.sm]) fun k hk => ?_
  rw [lft_get hk, ← c k hk]
  omega
/-- what all words say -/
theorem prec_words {m : Nat} {sh cs ds : List Int} (h : ShOk sh) (hN : NN m sh) (hc : BoundC sh cs) (hd : BoundC sh ds) (hne : cs ≠ ds) :
    ((words m sh).map fun l => decide (keyN l cs l.length < keyN l ds l.length)).any (· == true) = exLt cs ds sh.length ∧ ((words m sh).map fun l => decide (keyN l cs l.length < keyN l ds l.length)).any (· == false) = exLt ds cs sh.length := by
  have lead : ∀ {es fs : List Int}, BoundC sh es → BoundC sh fs → ∀ k, k < sh.length → es.getD k 0 < fs.getD k 0 → ∃ l, l ∈ words m sh ∧ keyN l es l.length < keyN l fs l.length := fun {es fs} he hf k hk hlt => by
    obtain ⟨c, hcc⟩ := Int.eq_ofNat_of_zero_le (show 0 ≤ sh.getD k 0 by have := (h.at hk).1; omega)
    obtain ⟨l, hl, ht⟩ := words_lead c m sh k hN hk hcc
    have hw := words_ok m sh hN l hl
    have hcnt : l.count (97 + k) = c := by have := hw.2.2 k hk; omega
    refine ⟨l, hl, key_axis_lt ht hcnt (by rw [← hcnt]; exact List.count_le_length) (he.2 k hk).1 ?_ hlt⟩
    have := (hf.2 k hk).2
    rw [hcc] at this
    exact this
  have all : ∀ {es fs : List Int}, BoundC sh es → BoundC sh fs → es ≠ fs → exLt fs es sh.length = false → ∀ l, l ∈ words m sh → keyN l es l.length < keyN l fs l.length := fun {es fs} he hf hn hx l hl => by
    obtain ⟨hW, hcl⟩ := words_wok h hN hl
    refine key_lt (CellOk.of hcl he) (CellOk.of hcl hf) hW.rng (fun k hk => ?_) hn
    have : ¬ fs.getD k 0 < es.getD k 0 := fun z => by
      have := exLt_iff.mpr ⟨k, hk, z⟩
      rw [hx] at this
      cases this
    omega
  constructor
  · cases hx : exLt cs ds sh.length with
    | true =>
      obtain ⟨k, hk, hlt⟩ := exLt_iff.mp hx
      obtain ⟨l, hl, hK⟩ := lead hc hd k hk hlt
      rw [List.any_eq_true]
      exact ⟨true, List.mem_map.mpr ⟨l, hl, decide_eq_true hK⟩, rfl⟩
    | false =>
      rw [List.any_eq_false]
      intro b hb
      obtain ⟨l, hl, rfl⟩ := List.mem_map.mp hb
      have := all hd hc (Ne.symm hne) hx l hl
      rw [decide_eq_false (by omega)]
      decide
  · cases hx : exLt ds cs sh.length with
    | true =>
      obtain ⟨k, hk, hlt⟩ := exLt_iff.mp hx
      obtain ⟨l, hl, hK⟩ := lead hd hc k hk hlt
      rw [List.any_eq_true]
      exact ⟨false, List.mem_map.mpr ⟨l, hl, decide_eq_false (by omega)⟩, rfl⟩
    | false =>
      rw [List.any_eq_false]
      intro b hb
      obtain ⟨l, hl, rfl⟩ := List.mem_map.mp hb
      have := all hc hd hne hx l hl
      rw [decide_eq_true this]
      decide
def signsOf (cs ds : List Int) (n : Nat) : List Bool := ((List.range n).filter fun k => decide (cs.getD k 0 ≠ ds.getD k 0)).map fun k => decide (cs.getD k 0 < ds.getD k 0)
theorem prec_signs {cs ds : List Int} {n : Nat} : (signsOf cs ds n).any (· == true) = exLt cs ds n ∧ (signsOf cs ds n).any (· == false) = exLt ds cs n := by
  unfold signsOf exLt
  constructor <;> rw [Bool.eq_iff_iff] <;> simp only [List.any_map, List.any_filter, List.any_eq_true, List.mem_range, Function.comp] <;> constructor <;> rintro ⟨k, hk, h⟩ <;> refine ⟨k, hk, ?_⟩
  all_goals simp at h ⊢
  all_goals omega
theorem signs_nil {cs ds : List Int} {n : Nat} (h1 : cs.length = n) (h2 : ds.length = n) : signsOf cs ds n = [] ↔ cs = ds := by
  unfold signsOf
  rw [List.map_eq_nil_iff, List.filter_eq_nil_iff]
  constructor
  · intro h
    refine getD_ext h1 h2 fun k hk => ?_
    have := h k (List.mem_range.mpr hk)
    simp at this
    exact this
  · intro h k hk
    rw [h]
    simp
theorem signs_snoc {cs ds : List Int} {n : Nat} : signsOf cs ds (n + 1) = if cs.getD n 0 ≠ ds.getD n 0 then signsOf cs ds n ++ [decide (cs.getD n 0 < ds.getD n 0)] else signsOf cs ds n := by
  unfold signsOf
  rw [List.range_succ, List.filter_append, List.map_append]
  by_cases h : cs.getD n 0 ≠ ds.getD n 0
  · rw [if_pos h, List.filter_cons, if_pos (decide_eq_true h)]
    rfl
  · rw [if_neg h, List.filter_cons, if_neg (by rw [decide_eq_true_eq]; exact h)]
    simp
end WK
/-! ## nodes, boxes, keys in boxes -/
namespace WK
open PySem PySem.Spec PyProof.Rows L2
/-! ### nodes: cells whose keys have like first bits -/
/-- what the first j bits tell of a number -/
def pre (l : List Nat) (k : Nat) : Nat → Int → Int
  | 0, _ => 0
  | j + 1, v => if l.getD j 0 = 97 + k then pre l k j (v / 2) * 2 + v % 2 else pre l k j (v / 2)
theorem pre_child {l : List Nat} {k j : Nat} {v b : Int} (b0 : 0 ≤ b) (b1 : b ≤ 1) : pre l k (j + 1) (2 * v + b) = if l.getD j 0 = 97 + k then pre l k j v * 2 + b else pre l k j v := by
  rw [pre, show (2 * v + b) / 2 = v by omega, show (2 * v + b) % 2 = b by omega]
theorem cellN_pre {l : List Nat} {K : Int} {k : Nat} : ∀ j, j ≤ l.length → cellN l K k j = pre l k j (K / 2 ^ (l.length - j))
  | 0, _ => rfl
  | j + 1, h => by
    have ih := cellN_pre (l := l) (K := K) (k := k) j (by omega)
    rw [cellN, pre, ih, show l.length - j = (l.length - (j + 1)) + 1 by omega, ediv_pow_succ']
/-- the bits that are still to come on an axis -/
def rm (l : List Nat) (k j : Nat) : Nat := l.count (97 + k) - (l.take j).count (97 + k)
theorem rm_step {l : List Nat} {k j : Nat} (h : j < l.length) : rm l k j = rm l k (j + 1) + if l.getD j 0 = 97 + k then 1 else 0 := by
  unfold rm
  rw [count_step h]
  by_cases e : l.getD j 0 = 97 + k
  · have := cnt_lt h
    have hg : l.getD j 0 = l[j] := by rw [List.getD_eq_getElem?_getD, List.getElem?_eq_getElem h]; rfl
    rw [← hg, e] at this
    simp only [e, if_true]
    omega
  · simp only [e, if_false]
    omega
theorem rm_end (l : List Nat) (k : Nat) : rm l k l.length = 0 := by
  unfold rm
  rw [List.take_length]
  omega
theorem rm_zero (l : List Nat) (k : Nat) : rm l k 0 = l.count (97 + k) := by
  unfold rm
  rw [List.take_zero]
  rfl
def nlo (l : List Nat) (k j : Nat) (v : Int) : Int := pre l k j v * 2 ^ rm l k j
def nhi (l : List Nat) (k j : Nat) (v : Int) : Int := (pre l k j v + 1) * 2 ^ rm l k j - 1
theorem nlo_other {l : List Nat} {k j : Nat} {v b : Int} (h : j < l.length) (b0 : 0 ≤ b) (b1 : b ≤ 1) (e : l.getD j 0 ≠ 97 + k) : nlo l k (j + 1) (2 * v + b) = nlo l k j v ∧ nhi l k (j + 1) (2 * v + b) = nhi l k j v := by
  unfold nlo nhi
  rw [pre_child b0 b1, if_neg e, rm_step (j := j) h, if_neg e, Nat.add_zero]
  exact ⟨rfl, rfl⟩
theorem nlo_axis {l : List Nat} {k j : Nat} {v b : Int} (h : j < l.length) (b0 : 0 ≤ b) (b1 : b ≤ 1) (e : l.getD j 0 = 97 + k) :
    nlo l k j v = pre l k j v * (2 * 2 ^ rm l k (j + 1)) ∧ nhi l k j v = (pre l k j v + 1) * (2 * 2 ^ rm l k (j + 1)) - 1 ∧ nlo l k (j + 1) (2 * v + b) = (2 * pre l k j v + b) * 2 ^ rm l k (j + 1) ∧ nhi l k (j + 1) (2 * v + b) = (2 * pre l k j v + b + 1) * 2 ^ rm l k (j + 1) - 1 := by
  have e2 : (2 : Int) ^ rm l k j = 2 * 2 ^ rm l k (j + 1) := by rw [rm_step (j := j) h, if_pos e, Int.pow_succ, Int.mul_comm]
  unfold nlo nhi
  rw [pre_child b0 b1, if_pos e, e2, Int.mul_comm (pre l k j v) 2]
  exact ⟨rfl, rfl, rfl, rfl⟩
/-- the middle of a stretch, and its halves -/
theorem nlo_mid {l : List Nat} {k j : Nat} {v : Int} (h : j < l.length) (e : l.getD j 0 = 97 + k) :
    (nlo l k j v + nhi l k j v + 1) / 2 = nlo l k (j + 1) (2 * v + 1) ∧ nlo l k (j + 1) (2 * v + 0) = nlo l k j v ∧ nhi l k (j + 1) (2 * v + 0) = nlo l k (j + 1) (2 * v + 1) - 1 ∧ nhi l k (j + 1) (2 * v + 1) = nhi l k j v ∧ nlo l k j v < nlo l k (j + 1) (2 * v + 1) ∧ nlo l k (j + 1) (2 * v + 1) ≤ nhi l k j v := by
  obtain ⟨a, b, c, d⟩ := nlo_axis (v := v) (b := 0) h (by decide) (by decide) e
  obtain ⟨_, _, c1, d1⟩ := nlo_axis (v := v) (b := 1) h (by decide) (by decide) e
  have p := pow_pos' (rm l k (j + 1))
  rw [a, b, c, d, c1, d1]
  generalize (2 : Int) ^ rm l k (j + 1) = S at *
  generalize pre l k j v = q at *
  have x1 : q * (2 * S) = 2 * (q * S) := by rw [Int.mul_left_comm]
  have x2 : (q + 1) * (2 * S) = 2 * (q * S) + 2 * S := by rw [Int.add_mul, x1]; omega
  have x3 : (2 * q + 0) * S = 2 * (q * S) := by rw [Int.add_zero, Int.mul_assoc]
  have x4 : (2 * q + 1) * S = 2 * (q * S) + S := by rw [Int.add_mul, Int.mul_assoc]; omega
  have x5 : (2 * q + 0 + 1) * S = 2 * (q * S) + S := by rw [Int.add_zero]; exact x4
  have x6 : (2 * q + 1 + 1) * S = 2 * (q * S) + 2 * S := by rw [show 2 * q + 1 + 1 = 2 * q + 2 by omega, Int.add_mul, Int.mul_assoc]
  rw [x1, x2, x3, x4, x5, x6]
  generalize q * S = Z
  refine ⟨?_, ?_, ?_, ?_, ?_, ?_⟩ <;> omega
/-- so many numbers in both stretches -/
def ov (a b lo hi : Int) : Int := if (if b < hi then b else hi) - (if a > lo then a else lo) + 1 > 0 then (if b < hi then b else hi) - (if a > lo then a else lo) + 1 else 0
theorem ov_split {a m b lo hi : Int} (h1 : a < m) (h2 : m ≤ b) (h3 : lo ≤ hi) : ov a b lo hi = ov a (m - 1) lo hi + ov m b lo hi := by
  unfold ov
  repeat' split
  all_goals omega
def prodI : List Int → Int
  | [] => 1
  | x :: xs => x * prodI xs
theorem prodI_split : ∀ (ks : List Nat) (f f1 f2 : Nat → Int) (a : Nat), a ∈ ks → ks.Nodup → (∀ k ∈ ks, k ≠ a → f k = f1 k ∧ f k = f2 k) → f a = f1 a + f2 a → prodI (ks.map f) = prodI (ks.map f1) + prodI (ks.map f2)
  | [], _, _, _, _, h, _, _, _ => by cases h
  | k :: ks, f, f1, f2, a, h, hn, ho, ha => by
    obtain ⟨h1, h2⟩ := List.nodup_cons.mp hn
    rw [List.map_cons, List.map_cons, List.map_cons, prodI, prodI, prodI]
    by_cases e : k = a
    · subst e
      have same : ∀ g : Nat → Int, (∀ i ∈ ks, f i = g i) → ks.map f = ks.map g := fun g hg => List.map_congr_left hg
      rw [← same f1 fun i hi => (ho i (List.mem_cons_of_mem _ hi) (fun z => h1 (z ▸ hi))).1, ← same f2 fun i hi => (ho i (List.mem_cons_of_mem _ hi) (fun z => h1 (z ▸ hi))).2, ha, Int.add_mul]
    · have hm : a ∈ ks := by
        rcases List.mem_cons.mp h with z | z
        · exact absurd z.symm e
        · exact z
      have ih := prodI_split ks f f1 f2 a hm h2 (fun i hi => ho i (List.mem_cons_of_mem _ hi)) ha
      obtain ⟨e1, e2⟩ := ho k List.mem_cons_self e
      rw [ih, Int.mul_add, ← e1, ← e2]
/-- the cells of a box in a node -/
def cntN (l : List Nat) (bx : List (Int × Int)) (j : Nat) (v : Int) : Int := prodI ((List.range bx.length).map fun k => ov (nlo l k j v) (nhi l k j v) (bx.getD k (0, 0)).1 (bx.getD k (0, 0)).2)
def inB (l : List Nat) (bx : List (Int × Int)) (K : Int) : Bool := (List.range bx.length).all fun k => decide ((bx.getD k (0, 0)).1 ≤ pre l k l.length K) && decide (pre l k l.length K ≤ (bx.getD k (0, 0)).2)
theorem cnt_split {l : List Nat} {bx : List (Int × Int)} {j : Nat} {v : Int} (hl : ∀ c ∈ l, 97 ≤ c ∧ c < 97 + bx.length) (hb : ∀ k, k < bx.length → (bx.getD k (0, 0)).1 ≤ (bx.getD k (0, 0)).2) (h : j < l.length) : cntN l bx j v = cntN l bx (j + 1) (2 * v) + cntN l bx (j + 1) (2 * v + 1) := by
  have hg : l.getD j 0 = l[j] := by rw [List.getD_eq_getElem?_getD, List.getElem?_eq_getElem h]; rfl
  obtain ⟨c1, c2⟩ := hl _ (List.getElem_mem h)
  rw [← hg] at c1 c2
  obtain ⟨a, ha⟩ : ∃ a, l.getD j 0 = 97 + a := ⟨l.getD j 0 - 97, by omega⟩
  unfold cntN
  refine prodI_split _ _ _ _ a (List.mem_range.mpr (by omega)) List.nodup_range (fun k hk hne => ?_) ?_
  · have e0 := nlo_other (v := v) (b := 0) (k := k) h (by decide) (by decide) (by omega)
    have e1 := nlo_other (v := v) (b := 1) (k := k) h (by decide) (by decide) (by omega)
    rw [Int.add_zero] at e0
    rw [e0.1, e0.2, e1.1, e1.2]
    exact ⟨rfl, rfl⟩
  · obtain ⟨m1, m2, m3, m4, m5, m6⟩ := nlo_mid (v := v) h ha
    rw [Int.add_zero] at m2 m3
    show ov _ _ _ _ = ov _ _ _ _ + ov _ _ _ _
    rw [m2, m3, m4]
    exact ov_split m5 m6 (hb a (by omega))
theorem prodI_bool : ∀ (ks : List Nat) (f : Nat → Int) (p : Nat → Bool), (∀ k ∈ ks, f k = if p k = true then 1 else 0) → prodI (ks.map f) = if ks.all p = true then 1 else 0
  | [], _, _, _ => rfl
  | k :: ks, f, p, h => by
    rw [List.map_cons, prodI, prodI_bool ks f p fun i hi => h i (List.mem_cons_of_mem _ hi), h k List.mem_cons_self, List.all_cons]
    cases p k <;> cases ks.all p <;> rfl
theorem cnt_leaf (l : List Nat) (bx : List (Int × Int)) (K : Int) (hb : ∀ k, k < bx.length → (bx.getD k (0, 0)).1 ≤ (bx.getD k (0, 0)).2) : cntN l bx l.length K = if inB l bx K = true then 1 else 0 := by
  unfold cntN inB
  refine prodI_bool _ _ _ fun k hk => ?_
  have h := hb k (List.mem_range.mp hk)
  unfold nlo nhi ov
  rw [rm_end, Int.pow_zero, Int.mul_one, Int.mul_one]
  simp only [Bool.and_eq_true, decide_eq_true_eq]
  generalize pre l k l.length K = q
  generalize (bx.getD k (0, 0)).1 = lo at *
  generalize (bx.getD k (0, 0)).2 = hi at *
  repeat' split
  all_goals omega
/-- how many from a on, m in all, keep p -/
def countK (p : Int → Bool) (a : Int) : Nat → Int
  | 0 => 0
  | m + 1 => countK p a m + if p (a + m) = true then 1 else 0
theorem countK_add (p : Int → Bool) (a : Int) (m : Nat) : ∀ m' : Nat, countK p a (m + m') = countK p a m + countK p (a + m) m'
  | 0 => by rw [Nat.add_zero, countK, Int.add_zero]
  | m' + 1 => by
    rw [← Nat.add_assoc, countK, countK, countK_add p a m m', show a + ((m + m' : Nat) : Int) = a + m + m' by omega]
    omega
theorem countK_nn (p : Int → Bool) (a : Int) : ∀ m : Nat, 0 ≤ countK p a m
  | 0 => Int.le_refl _
  | m + 1 => by
    have := countK_nn p a m
    rw [countK]
    split <;> omega
theorem countK_le (p : Int → Bool) (a : Int) : ∀ m : Nat, countK p a m ≤ m
  | 0 => Int.le_refl _
  | m + 1 => by
    have := countK_le p a m
    rw [countK]
    split <;> omega
theorem cnt_count {l : List Nat} {bx : List (Int × Int)} (hl : ∀ c ∈ l, 97 ≤ c ∧ c < 97 + bx.length) (hb : ∀ k, k < bx.length → (bx.getD k (0, 0)).1 ≤ (bx.getD k (0, 0)).2) : ∀ (d j : Nat) (v : Int), j + d = l.length → cntN l bx j v = countK (inB l bx) (v * 2 ^ d) (2 ^ d)
  | 0, j, v, h => by
    rw [show j = l.length by omega, cnt_leaf l bx v hb, Int.pow_zero, Int.mul_one]
    show _ = 0 + if inB l bx (v + ((0 : Nat) : Int)) = true then 1 else 0
    rw [Int.natCast_zero, Int.add_zero, Int.zero_add]
  | d + 1, j, v, h => by
    rw [cnt_split hl hb (by omega), cnt_count hl hb d (j + 1) _ (by omega), cnt_count hl hb d (j + 1) _ (by omega), show (2 : Nat) ^ (d + 1) = 2 ^ d + 2 ^ d by rw [Nat.pow_succ]; omega, countK_add, Int.pow_succ]
    have e1 : 2 * v * 2 ^ d = v * (2 ^ d * 2) := by rw [Int.mul_comm 2 v, Int.mul_assoc, Int.mul_comm 2]
    have e2 : (2 * v + 1) * 2 ^ d = v * (2 ^ d * 2) + ((2 ^ d : Nat) : Int) := by
      rw [Int.add_mul, e1, Int.one_mul]
      congr 1
    rw [e1, e2]
theorem cellsOf_memT {sh c : List Int} (h : BoundC sh c) : ∀ m, m ≤ sh.length → c.take m ∈ cellsOf (sh.take m)
  | 0, _ => by
    rw [List.take_zero, List.take_zero]
    exact List.mem_singleton.mpr rfl
  | m + 1, hm => by
    have hmc : m < c.length := by rw [h.1]; exact hm
    have hb := h.2 m hm
    have e1 : sh.getD m 0 = sh[m] := by rw [List.getD_eq_getElem?_getD, List.getElem?_eq_getElem hm]; rfl
    have e2 : c.getD m 0 = c[m] := by rw [List.getD_eq_getElem?_getD, List.getElem?_eq_getElem hmc]; rfl
    rw [e1, e2, pow_nat] at hb
    rw [List.take_succ_eq_append_getElem hm, List.take_succ_eq_append_getElem hmc, cellsOf_snoc]
    unfold grow
    rw [List.mem_flatMap]
    refine ⟨c.take m, cellsOf_memT h m (by omega), List.mem_map.mpr ⟨c[m].toNat, List.mem_range.mpr (by omega), ?_⟩⟩
    rw [show ((c[m].toNat : Nat) : Int) = c[m] by omega]
theorem cellsOf_mem {sh c : List Int} (h : BoundC sh c) : c ∈ cellsOf sh := by
  have := cellsOf_memT h sh.length (Nat.le_refl _)
  rw [List.take_length, List.take_of_length_le (by rw [h.1]; exact Nat.le_refl _)] at this
  exact this
/-! ### keys in a box: which they are, how many -/
theorem pre_nums {l : List Nat} {K : Int} {n k : Nat} (h : k < n) : (nums l K n l.length).getD k 0 = pre l k l.length K := by
  rw [List.getD_eq_getElem?_getD, nums_at h]
  show cellN l K k l.length = _
  rw [cellN_pre _ (Nat.le_refl _), Nat.sub_self, Int.pow_zero, Int.ediv_one]
theorem pre_key {l : List Nat} {n k : Nat} {cs : List Int} (hc : CellOk l n cs) (h : k < n) : pre l k l.length (keyN l cs l.length) = cs.getD k 0 := by
  rw [← pre_nums h, nums_key hc]
/-- a cell in a box -/
def inC (bx : List (Int × Int)) (cs : List Int) : Bool := (List.range bx.length).all fun k => decide ((bx.getD k (0, 0)).1 ≤ cs.getD k 0) && decide (cs.getD k 0 ≤ (bx.getD k (0, 0)).2)
theorem inB_key {l : List Nat} {bx : List (Int × Int)} {cs : List Int} (hc : CellOk l bx.length cs) : inB l bx (keyN l cs l.length) = inC bx cs := by
  unfold inB inC
  rw [Bool.eq_iff_iff, List.all_eq_true, List.all_eq_true]
  constructor <;> intro h k hk
  · have := h k hk
    rw [pre_key hc (List.mem_range.mp hk)] at this
    exact this
  · rw [pre_key hc (List.mem_range.mp hk)]
    exact h k hk
/-- the keys in a box, ascending -/
def listB (p : Int → Bool) (m : Nat) : List Int := ((List.range m).filter fun i => p ((i : Nat) : Int)).map fun i => ((i : Nat) : Int)
theorem listB_succ (p : Int → Bool) (m : Nat) : listB p (m + 1) = if p ((m : Nat) : Int) = true then listB p m ++ [((m : Nat) : Int)] else listB p m := by
  unfold listB
  rw [List.range_succ, List.filter_append, List.map_append]
  by_cases h : p ((m : Nat) : Int) = true
  · rw [if_pos h, List.filter_cons, if_pos h]
    rfl
  · rw [if_neg h, List.filter_cons, if_neg h]
    simp
theorem listB_mem {p : Int → Bool} {m : Nat} {x : Int} : x ∈ listB p m ↔ 0 ≤ x ∧ x < (m : Int) ∧ p x = true := by
  unfold listB
  rw [List.mem_map]
  constructor
  · rintro ⟨i, hi, rfl⟩
    obtain ⟨h1, h2⟩ := List.mem_filter.mp hi
    have := List.mem_range.mp h1
    exact ⟨by omega, by omega, h2⟩
  · rintro ⟨h0, h1, h2⟩
    refine ⟨x.toNat, List.mem_filter.mpr ⟨List.mem_range.mpr (by omega), ?_⟩, by omega⟩
    show p ((x.toNat : Nat) : Int) = true
    rw [show ((x.toNat : Nat) : Int) = x by omega]
    exact h2
theorem listB_asc (p : Int → Bool) : ∀ m : Nat, (listB p m).Pairwise (· < ·)
  | 0 => List.Pairwise.nil
  | m + 1 => by
    rw [listB_succ]
    split
    · rw [List.pairwise_append]
      refine ⟨listB_asc p m, List.pairwise_singleton _ _, fun x hx y hy => ?_⟩
      rw [List.mem_singleton.mp hy]
      exact (listB_mem.mp hx).2.1
    · exact listB_asc p m
theorem listB_len (p : Int → Bool) : ∀ m : Nat, ((listB p m).length : Int) = countK p 0 m
  | 0 => rfl
  | m + 1 => by
    rw [listB_succ, countK, ← listB_len p m, Int.zero_add]
    split
    · rw [List.length_append]
      rfl
    · omega
theorem asc_ext : ∀ (a b : List Int), a.Pairwise (· < ·) → b.Pairwise (· < ·) → (∀ x, x ∈ a ↔ x ∈ b) → a = b
  | [], [], _, _, _ => rfl
  | [], y :: b, _, _, h => by
    have := (h y).mpr List.mem_cons_self
    cases this
  | x :: a, [], _, _, h => by
    have := (h x).mp List.mem_cons_self
    cases this
  | x :: a, y :: b, ha, hb, h => by
    obtain ⟨a1, a2⟩ := List.pairwise_cons.mp ha
    obtain ⟨b1, b2⟩ := List.pairwise_cons.mp hb
    have e : x = y := by
      rcases List.mem_cons.mp ((h x).mp List.mem_cons_self) with z | z
      · exact z
      · rcases List.mem_cons.mp ((h y).mpr List.mem_cons_self) with w | w
        · exact w.symm
        · have := a1 y w
          have := b1 x z
          omega
    subst e
    congr 1
    refine asc_ext a b a2 b2 fun z => ?_
    constructor
    · intro hz
      rcases List.mem_cons.mp ((h z).mp (List.mem_cons_of_mem _ hz)) with w | w
      · have := a1 z hz
        omega
      · exact w
    · intro hz
      rcases List.mem_cons.mp ((h z).mpr (List.mem_cons_of_mem _ hz)) with w | w
      · have := b1 z hz
        omega
      · exact w
/-- the keys that the law finds cell by cell -/
theorem listed_eq {l : List Nat} {sh : List Int} {bx : List (Int × Int)} {ns : List Int} (hsh : ShOk sh) (hW : WOk l sh.length) (hl : cnts l sh.length = sh) (hbl : bx.length = sh.length)
    (hp : ns.Perm (((cellsOf sh).filter (inC bx)).map fun c => keyN l c l.length)) (hs : ns.Pairwise (· ≤ ·)) : ns = listB (inB l bx) (2 ^ l.length) := by
  have ok : ∀ c, c ∈ cellsOf sh → CellOk l sh.length c := fun c hc => CellOk.of hl (cellsOf_bound hc)
  have nd : (((cellsOf sh).filter (inC bx)).map fun c => keyN l c l.length).Nodup := by
    rw [List.nodup_iff_pairwise_ne, List.pairwise_map]
    have nd := cellsOf_nodup sh.length sh (Nat.le_refl _)
    rw [List.take_length] at nd
    refine List.Pairwise.imp_of_mem ?_ (List.nodup_iff_pairwise_ne.mp (nd.filter _))
    intro c d hc hd hne e
    exact hne (keyN_inj (ok c (List.mem_filter.mp hc).1) (ok d (List.mem_filter.mp hd).1) e)
  refine asc_ext _ _ ?_ (listB_asc _ _) fun x => ?_
  · exact (hs.and (hp.nodup_iff.mpr nd)).imp fun {a b} h => by
      have := h.1
      have := h.2
      omega
  · rw [hp.mem_iff, listB_mem, List.mem_map]
    constructor
    · rintro ⟨c, hc, rfl⟩
      obtain ⟨h1, h2⟩ := List.mem_filter.mp hc
      obtain ⟨k0, k1⟩ := keyN_bound l c l.length
      refine ⟨k0, by rw [← pow_nat]; exact k1, ?_⟩
      rw [inB_key (by rw [hbl]; exact ok c h1)]
      exact h2
    · rintro ⟨h0, h1, h2⟩
      rw [← pow_nat] at h1
      have hn := nums_ok l x sh.length
      have hb : BoundC sh (nums l x sh.length l.length) := by
        refine ⟨hn.len, fun k hk => ⟨hn.lo k hk, ?_⟩⟩
        have := hn.hi k hk
        have e : sh.getD k 0 = (l.count (97 + k) : Nat) := by
          have h3 := cnts_at (l := l) hk
          rw [hl] at h3
          rw [List.getD_eq_getElem?_getD, h3]
          rfl
        rw [e, Int.toNat_natCast]
        exact this
      refine ⟨nums l x sh.length l.length, List.mem_filter.mpr ⟨cellsOf_mem hb, ?_⟩, key_back hW.rng h0 h1⟩
      rw [← inB_key (l := l) (by rw [hbl]; exact hn), key_back hW.rng h0 h1]
      exact h2
end WK
namespace WK
open PySem PySem.Spec PyProof.Rows L2
/-! ### boxes in memory -/
def prV (p : Int × Int) : List V := [.int p.1, .int p.2]
def BoxAt (H : Hp) (b : Addr) (bx : List (Int × Int)) : Prop := ∃ xs, H b = some (.tup xs) ∧ TupsAt H xs (bx.map prV)
theorem BoxAt.same {H H' : Hp} {b : Addr} {bx : List (Int × Int)} (h : BoxAt H b bx) (s : Same H H') : BoxAt H' b bx := by
  obtain ⟨xs, h1, h2⟩ := h
  exact ⟨xs, s _ _ h1, h2.same s⟩
theorem BoxAt.but {H H' : Hp} {b D : Addr} {bx : List (Int × Int)} {zs : List V} (h : BoxAt H b bx) (x : But D H H') (hD : H D = some (.lst zs)) : BoxAt H' b bx := by
  obtain ⟨xs, h1, h2⟩ := h
  exact ⟨xs, x.keepT hD h1, h2.but x hD⟩
theorem Br.boxAt {a b : Addr} {n : Nat} {H H' : Hp} {bx : List (Int × Int)} (B : Br a n H) (x : But a H H') (h : BoxAt H b bx) : BoxAt H' b bx := by
  obtain ⟨o, h1, _, _, _, e, _⟩ := B
  exact h.but x (by rw [h1, e])
/-- an item of a box -/
theorem TupsAt.pair {H : Hp} {xs : List V} {bx : List (Int × Int)} {j : Nat} {x : V} (h : TupsAt H xs (bx.map prV)) (hx : xs[j]? = some x) : ∃ a, x = .ref a ∧ j < bx.length ∧ H a = some (.tup [.int (bx.getD j (0, 0)).1, .int (bx.getD j (0, 0)).2]) := by
  obtain ⟨a, t, e, ht, ha⟩ := h.get hx
  rw [List.getElem?_map] at ht
  obtain ⟨p, hp, rfl⟩ := Option.map_eq_some_iff.mp ht
  refine ⟨a, e, (List.getElem?_eq_some_iff.mp hp).1, ?_⟩
  rw [List.getD_eq_getElem?_getD, hp]
  exact ha
theorem TupsAt.lenB {H : Hp} {xs : List V} {bx : List (Int × Int)} (h : TupsAt H xs (bx.map prV)) : xs.length = bx.length := by rw [h.1, List.length_map]
def metB (bx cx : List (Int × Int)) : List (Int × Int) := (List.range bx.length).map fun k => (if (cx.getD k (0, 0)).1 > (bx.getD k (0, 0)).1 then (cx.getD k (0, 0)).1 else (bx.getD k (0, 0)).1, if (cx.getD k (0, 0)).2 < (bx.getD k (0, 0)).2 then (cx.getD k (0, 0)).2 else (bx.getD k (0, 0)).2)
def metOk (bx cx : List (Int × Int)) : Bool := (metB bx cx).all fun p => decide (p.1 ≤ p.2)
theorem prodI_snoc : ∀ (xs : List Int) (x : Int), prodI (xs ++ [x]) = prodI xs * x
  | [], x => by
    show x * 1 = 1 * x
    omega
  | y :: xs, x => by
    show y * prodI (xs ++ [x]) = y * prodI xs * x
    rw [prodI_snoc xs x, Int.mul_assoc]
theorem prodI_bound : ∀ xs : List Int, (∀ x ∈ xs, 0 ≤ x ∧ x < 2 ^ 130) → 0 ≤ prodI xs ∧ prodI xs < 2 ^ (130 * xs.length + 1)
  | [], _ => ⟨by decide, by decide⟩
  | x :: xs, h => by
    obtain ⟨a, b⟩ := prodI_bound xs fun y hy => h y (List.mem_cons_of_mem _ hy)
    obtain ⟨c, d⟩ := h x List.mem_cons_self
    refine ⟨Int.mul_nonneg c a, ?_⟩
    have := mul_lt_pow c d a b
    rw [List.length_cons, show 130 * (xs.length + 1) + 1 = 130 + (130 * xs.length + 1) by omega]
    exact this
theorem metB_len (bx cx : List (Int × Int)) : (metB bx cx).length = bx.length := by
  unfold metB
  rw [List.length_map, List.length_range]
theorem metB_at {bx cx : List (Int × Int)} {k : Nat} (h : k < bx.length) : (metB bx cx)[k]? = some (if (cx.getD k (0, 0)).1 > (bx.getD k (0, 0)).1 then (cx.getD k (0, 0)).1 else (bx.getD k (0, 0)).1, if (cx.getD k (0, 0)).2 < (bx.getD k (0, 0)).2 then (cx.getD k (0, 0)).2 else (bx.getD k (0, 0)).2) := by
  unfold metB
  rw [List.getElem?_map, List.getElem?_range h]
  rfl
theorem take_snocG {α : Type} {xs : List α} {i : Nat} {x : α} (h : xs[i]? = some x) : xs.take (i + 1) = xs.take i ++ [x] := by
  obtain ⟨hl, e⟩ := List.getElem?_eq_some_iff.mp h
  rw [List.take_succ_eq_append_getElem hl, e]
def halfB (bx : List (Int × Int)) (a : Nat) (bit : Int) : List (Int × Int) := bx.set a (if bit = 0 then ((bx.getD a (0, 0)).1, ((bx.getD a (0, 0)).1 + (bx.getD a (0, 0)).2 + 1) / 2 - 1) else (((bx.getD a (0, 0)).1 + (bx.getD a (0, 0)).2 + 1) / 2, (bx.getD a (0, 0)).2))
/-- one item exchanged -/
theorem TupsAt.setB {H : Hp} {xs : List V} {bx : List (Int × Int)} {a : Nat} {q : Addr} {p : Int × Int} (h : TupsAt H xs (bx.map prV)) (hq : H q = some (.tup (prV p))) : TupsAt H (xs.set a (.ref q)) ((bx.set a p).map prV) := by
  refine ⟨by rw [List.length_set, List.length_map, List.length_set, h.lenB], fun j x t hx ht => ?_⟩
  by_cases e : j = a
  · subst e
    have hj : j < xs.length := by
      have := (List.getElem?_eq_some_iff.mp hx).1
      rw [List.length_set] at this
      exact this
    rw [List.getElem?_set_self hj] at hx
    rw [List.getElem?_map, List.getElem?_set_self (by rw [← h.lenB]; exact hj)] at ht
    cases hx
    cases ht
    exact ⟨q, rfl, hq⟩
  · rw [List.getElem?_set_ne (Ne.symm e)] at hx
    rw [List.getElem?_map, List.getElem?_set_ne (Ne.symm e), ← List.getElem?_map] at ht
    exact h.2 j x t hx ht
structure BoxOk (l : List Nat) (n : Nat) (bx : List (Int × Int)) : Prop where
  len : bx.length = n
  lo : ∀ k, k < n → 0 ≤ (bx.getD k (0, 0)).1
  le : ∀ k, k < n → (bx.getD k (0, 0)).1 ≤ (bx.getD k (0, 0)).2
  hi : ∀ k, k < n → (bx.getD k (0, 0)).2 < 2 ^ l.count (97 + k)
theorem prodI_zero : ∀ (ks : List Nat) (f : Nat → Int) (a : Nat), a ∈ ks → f a = 0 → prodI (ks.map f) = 0
  | [], _, _, h, _ => by cases h
  | k :: ks, f, a, h, e => by
    rw [List.map_cons, prodI]
    rcases List.mem_cons.mp h with z | z
    · rw [← z, e, Int.zero_mul]
    · rw [prodI_zero ks f a z e, Int.mul_zero]
theorem met_cells (bx cx : List (Int × Int)) : prodI ((List.range bx.length).map fun k => ov (cx.getD k (0, 0)).1 (cx.getD k (0, 0)).2 (bx.getD k (0, 0)).1 (bx.getD k (0, 0)).2) = if metOk bx cx = true then prodI ((metB bx cx).map fun p => p.2 - p.1 + 1) else 0 := by
  by_cases h : metOk bx cx = true
  · rw [if_pos h]
    unfold metB
    rw [List.map_map]
    congr 1
    apply List.map_congr_left
    intro k hk
    have hk' := List.mem_range.mp hk
    unfold metOk at h
    have := List.all_eq_true.mp h _ (List.mem_of_getElem? (metB_at (cx := cx) hk'))
    have := of_decide_eq_true this
    unfold ov
    simp only [Function.comp]
    rw [if_pos (by omega)]
  · rw [if_neg h]
    have h' : metOk bx cx = false := by
      cases e : metOk bx cx with
      | true => exact absurd e h
      | false => rfl
    unfold metOk at h'
    rw [List.all_eq_false] at h'
    obtain ⟨p, hp, hd⟩ := h'
    obtain ⟨k, hk⟩ := List.mem_iff_getElem?.mp hp
    have hkl : k < bx.length := by
      have := (List.getElem?_eq_some_iff.mp hk).1
      rw [metB_len] at this
      exact this
    rw [metB_at hkl] at hk
    have e := Option.some.inj hk
    subst e
    refine prodI_zero _ _ k (List.mem_range.mpr hkl) ?_
    unfold ov
    rw [decide_eq_true_eq] at hd
    rw [if_neg (by omega)]
theorem met_small {bx cx : List (Int × Int)} (h129 : ∀ k, k < bx.length → (bx.getD k (0, 0)).2 < (bx.getD k (0, 0)).1 + 2 ^ 129) (h : metOk bx cx = true) : ∀ p ∈ metB bx cx, p.1 ≤ p.2 + 1 ∧ p.2 < p.1 + 2 ^ 129 := fun p hp => by
  unfold metOk at h
  have h1 := of_decide_eq_true (List.all_eq_true.mp h p hp)
  obtain ⟨k, hk⟩ := List.mem_iff_getElem?.mp hp
  have hkl : k < bx.length := by
    have := (List.getElem?_eq_some_iff.mp hk).1
    rw [metB_len] at this
    exact this
  have h2 := h129 k hkl
  rw [metB_at hkl] at hk
  have e := Option.some.inj hk
  subst e
  refine ⟨by omega, ?_⟩
  show (if _ then _ else _) < (if _ then _ else _) + _
  split <;> split <;> omega
theorem BoxOk.small {l : List Nat} {n : Nat} {bx : List (Int × Int)} (h : BoxOk l n bx) (hW : WOk l n) : ∀ k, k < bx.length → (bx.getD k (0, 0)).2 < (bx.getD k (0, 0)).1 + 2 ^ 129 := fun k hk => by
  rw [h.len] at hk
  have h0 := h.lo k hk
  have h1 := h.hi k hk
  have h2 := hW.hi k hk
  have := pow_le (a := l.count (97 + k)) (b := 129) (by omega)
  omega
/-- a node as a box -/
def nodeBx (l : List Nat) (n j : Nat) (v : Int) : List (Int × Int) := (List.range n).map fun k => (nlo l k j v, nhi l k j v)
theorem nodeBx_len (l : List Nat) (n j : Nat) (v : Int) : (nodeBx l n j v).length = n := by
  unfold nodeBx
  rw [List.length_map, List.length_range]
theorem nodeBx_get {l : List Nat} {n j k : Nat} {v : Int} (h : k < n) : (nodeBx l n j v).getD k (0, 0) = (nlo l k j v, nhi l k j v) := by
  unfold nodeBx
  rw [List.getD_eq_getElem?_getD, List.getElem?_map, List.getElem?_range h]
  rfl
theorem nodeBx_root {l : List Nat} {sh : List Int} (hl : cnts l sh.length = sh) : (sh.map fun b => ((0 : Int), (2 : Int) ^ b.toNat - 1)) = nodeBx l sh.length 0 0 := by
  apply List.ext_getElem?
  intro k
  by_cases hk : k < sh.length
  · unfold nodeBx
    rw [List.getElem?_map, List.getElem?_map, List.getElem?_range hk, List.getElem?_eq_getElem hk]
    have h1 := cnts_at (l := l) hk
    rw [hl, List.getElem?_eq_getElem hk] at h1
    have e := Option.some.inj h1
    show some ((0 : Int), (2 : Int) ^ (sh[k]).toNat - 1) = some (nlo l k 0 0, nhi l k 0 0)
    unfold nlo nhi
    rw [rm_zero, e, Int.toNat_natCast]
    show _ = some ((0 : Int) * _, ((0 : Int) + 1) * _ - 1)
    rw [Int.zero_mul, Int.zero_add, Int.one_mul]
  · rw [List.getElem?_eq_none (by rw [List.length_map]; omega), List.getElem?_eq_none (by rw [nodeBx_len]; omega)]
theorem nodeBx_half {l : List Nat} {n j : Nat} {v b : Int} (hl : ∀ c ∈ l, 97 ≤ c ∧ c < 97 + n) (h : j < l.length) (hb : b = 0 ∨ b = 1) : halfB (nodeBx l n j v) (l.getD j 0 - 97) b = nodeBx l n (j + 1) (2 * v + b) := by
  have hg : l.getD j 0 = l[j] := by rw [List.getD_eq_getElem?_getD, List.getElem?_eq_getElem h]; rfl
  obtain ⟨c1, c2⟩ := hl _ (List.getElem_mem h)
  rw [← hg] at c1 c2
  obtain ⟨a, ha⟩ : ∃ a, l.getD j 0 = 97 + a := ⟨l.getD j 0 - 97, by omega⟩
  have han : a < n := by omega
  obtain ⟨m1, m2, m3, m4, m5, m6⟩ := nlo_mid (v := v) h ha
  rw [ha, show 97 + a - 97 = a by omega]
  unfold halfB
  rw [nodeBx_get han]
  apply List.ext_getElem?
  intro k
  by_cases hk : k < n
  · have e2 : (nodeBx l n (j + 1) (2 * v + b))[k]? = some (nlo l k (j + 1) (2 * v + b), nhi l k (j + 1) (2 * v + b)) := by
      unfold nodeBx
      rw [List.getElem?_map, List.getElem?_range hk]
      rfl
    rw [e2]
    by_cases e : k = a
    · subst e
      rw [List.getElem?_set_self (by rw [nodeBx_len]; exact hk)]
      congr 1
      rcases hb with rfl | rfl
      · rw [if_pos rfl, m2, m3]
        show (_, _ / 2 - 1) = _
        rw [m1]
      · rw [if_neg (by decide), m4]
        show (_ / 2, _) = _
        rw [m1]
    · rw [List.getElem?_set_ne (Ne.symm e)]
      obtain ⟨o1, o2⟩ := nlo_other (v := v) (b := b) (k := k) h (by omega) (by omega) (by omega)
      rw [o1, o2]
      unfold nodeBx
      rw [List.getElem?_map, List.getElem?_range hk]
      rfl
  · rw [List.getElem?_eq_none (by rw [List.length_set, nodeBx_len]; omega), List.getElem?_eq_none (by rw [nodeBx_len]; omega)]
theorem cells_node {l : List Nat} {bx : List (Int × Int)} {n j : Nat} {v : Int} (h : bx.length = n) : prodI ((List.range bx.length).map fun k => ov ((nodeBx l n j v).getD k (0, 0)).1 ((nodeBx l n j v).getD k (0, 0)).2 (bx.getD k (0, 0)).1 (bx.getD k (0, 0)).2) = cntN l bx j v := by
  unfold cntN
  congr 1
  apply List.map_congr_left
  intro k hk
  rw [nodeBx_get (by rw [← h]; exact List.mem_range.mp hk)]
theorem WOk.sh {l : List Nat} {n : Nat} (h : WOk l n) : ShOk (cnts l n) := by
  refine ⟨by rw [cnts_len]; exact h.n1, by rw [cnts_len]; exact h.n4, fun b hb => ?_, by rw [h.sum]; have := h.le; omega⟩
  obtain ⟨k, hk, rfl⟩ := cnts_mem hb
  have := h.lo k hk
  have := h.hi k hk
  omega
theorem key_bit (key : Int) (d : Nat) : key / 2 ^ d = 2 * (key / 2 ^ (d + 1)) + key / 2 ^ d % 2 := by
  rw [ediv_pow_succ']
  generalize key / 2 ^ d = X
  omega
theorem count_up (p : Int → Bool) {V : Int} {d : Nat} (h : 0 ≤ V) : countK p 0 (V * 2 ^ (d + 1)).toNat + countK p (2 * V * 2 ^ d) (2 ^ d) = countK p 0 ((2 * V + 1) * 2 ^ d).toNat := by
  have e1 : V * 2 ^ (d + 1) = 2 * V * 2 ^ d := by rw [Int.pow_succ, Int.mul_comm (2 ^ d) 2, ← Int.mul_assoc, Int.mul_comm V 2]
  have e2 : (2 * V + 1) * 2 ^ d = 2 * V * 2 ^ d + 2 ^ d := by rw [Int.add_mul, Int.one_mul]
  have h0 : 0 ≤ 2 * V * 2 ^ d := Int.mul_nonneg (by omega) (Int.le_of_lt (pow_pos' d))
  rw [e1, e2]
  generalize 2 * V * 2 ^ d = S at *
  have e3 : (S + 2 ^ d).toNat = S.toNat + 2 ^ d := by
    rw [pow_nat]
    generalize (2 : Nat) ^ d = M
    omega
  rw [e3, countK_add, Int.zero_add, show ((S.toNat : Nat) : Int) = S by omega]
end WK
/-! ## boxes of shapes, finer weaves -/
namespace WK
open PySem PySem.Spec PyProof.Rows L2
structure BoxSh (sh : List Int) (bx : List (Int × Int)) : Prop where
  len : bx.length = sh.length
  lo : ∀ k, k < sh.length → 0 ≤ (bx.getD k (0, 0)).1
  le : ∀ k, k < sh.length → (bx.getD k (0, 0)).1 ≤ (bx.getD k (0, 0)).2
  hi : ∀ k, k < sh.length → (bx.getD k (0, 0)).2 < 2 ^ (sh.getD k 0).toNat
theorem cnts_get {l : List Nat} {sh : List Int} (hl : cnts l sh.length = sh) {k : Nat} (hk : k < sh.length) : sh.getD k 0 = (l.count (97 + k) : Nat) := by
  have h1 := cnts_at (l := l) hk
  rw [hl] at h1
  rw [List.getD_eq_getElem?_getD, h1]
  rfl
theorem BoxSh.ok {sh : List Int} {bx : List (Int × Int)} {l : List Nat} (h : BoxSh sh bx) (hl : cnts l sh.length = sh) : BoxOk l sh.length bx := by
  refine ⟨h.len, h.lo, h.le, fun k hk => ?_⟩
  have := h.hi k hk
  rw [cnts_get hl hk, Int.toNat_natCast] at this
  exact this
theorem getP_snoc_lt {bx : List (Int × Int)} {p : Int × Int} {k : Nat} (h : k < bx.length) : (bx ++ [p]).getD k (0, 0) = bx.getD k (0, 0) := by
  rw [List.getD_eq_getElem?_getD, List.getD_eq_getElem?_getD, List.getElem?_append_left h]
theorem getP_snoc_eq {bx : List (Int × Int)} {p : Int × Int} {k : Nat} (h : k = bx.length) : (bx ++ [p]).getD k (0, 0) = p := by
  rw [List.getD_eq_getElem?_getD, h, List.getElem?_append_right (Nat.le_refl _), Nat.sub_self]
  rfl
/-- the box of all finer cells -/
def wideB (bx : List (Int × Int)) (more : List Int) : List (Int × Int) := (List.range bx.length).map fun k => ((bx.getD k (0, 0)).1 * 2 ^ (more.getD k 0).toNat, ((bx.getD k (0, 0)).2 + 1) * 2 ^ (more.getD k 0).toNat - 1)
theorem wideB_len (bx : List (Int × Int)) (more : List Int) : (wideB bx more).length = bx.length := by
  unfold wideB
  rw [List.length_map, List.length_range]
theorem wideB_get {bx : List (Int × Int)} {more : List Int} {k : Nat} (h : k < bx.length) : (wideB bx more).getD k (0, 0) = ((bx.getD k (0, 0)).1 * 2 ^ (more.getD k 0).toNat, ((bx.getD k (0, 0)).2 + 1) * 2 ^ (more.getD k 0).toNat - 1) := by
  unfold wideB
  rw [List.getD_eq_getElem?_getD, List.getElem?_map, List.getElem?_range h]
  rfl
theorem pre_left {l t : List Nat} {k : Nat} : ∀ (j : Nat) (v : Int), j ≤ l.length → pre (l ++ t) k j v = pre l k j v
  | 0, _, _ => rfl
  | j + 1, v, h => by
    have e : (l ++ t).getD j 0 = l.getD j 0 := by rw [List.getD_eq_getElem?_getD, List.getD_eq_getElem?_getD, List.getElem?_append_left h]
    rw [pre, pre, e, pre_left j _ (by omega)]
theorem pre_append {l t : List Nat} {k : Nat} : ∀ (j : Nat) (v : Int), j ≤ t.length → pre (l ++ t) k (l.length + j) v / 2 ^ (t.take j).count (97 + k) = pre l k l.length (v / 2 ^ j)
  | 0, v, _ => by rw [Nat.add_zero, List.take_zero, List.count_nil, Int.pow_zero, Int.ediv_one, Int.ediv_one, pre_left _ _ (Nat.le_refl _)]
  | j + 1, v, h => by
    have ih := pre_append (l := l) (t := t) (k := k) j (v / 2) (by omega)
    have e : (l ++ t).getD (l.length + j) 0 = t.getD j 0 := by rw [List.getD_eq_getElem?_getD, List.getD_eq_getElem?_getD, List.getElem?_append_right (by omega), Nat.add_sub_cancel_left]
    rw [← Nat.add_assoc, pre, e, count_step h]
    by_cases z : t.getD j 0 = 97 + k
    · simp only [z, if_true]
      rw [ediv_pow_succ, ediv_pow_succ v j, ← ih]
      generalize pre (l ++ t) k (l.length + j) (v / 2) = X
      rw [show (X * 2 + v % 2) / 2 = X by omega]
    · simp only [z, if_false]
      rw [Nat.add_zero, ediv_pow_succ v j, ← ih]
theorem inB_fine {l t : List Nat} {bx : List (Int × Int)} {more : List Int} (hm : ∀ k, k < bx.length → t.count (97 + k) = (more.getD k 0).toNat) (v : Int) : inB (l ++ t) (wideB bx more) v = inB l bx (v / 2 ^ t.length) := by
  unfold inB
  rw [wideB_len, Bool.eq_iff_iff, List.all_eq_true, List.all_eq_true]
  have key : ∀ k, k ∈ List.range bx.length → ((decide (((wideB bx more).getD k (0, 0)).1 ≤ pre (l ++ t) k (l ++ t).length v) && decide (pre (l ++ t) k (l ++ t).length v ≤ ((wideB bx more).getD k (0, 0)).2)) = true ↔ (decide ((bx.getD k (0, 0)).1 ≤ pre l k l.length (v / 2 ^ t.length)) && decide (pre l k l.length (v / 2 ^ t.length) ≤ (bx.getD k (0, 0)).2)) = true) := fun k hk => by
    have hk' := List.mem_range.mp hk
    have h := pre_append (l := l) (t := t) (k := k) t.length v (Nat.le_refl _)
    rw [List.take_length, hm k hk'] at h
    rw [wideB_get hk', List.length_append, ← h]
    have p := pow_pos' (more.getD k 0).toNat
    generalize (2 : Int) ^ (more.getD k 0).toNat = S at *
    generalize pre (l ++ t) k (l.length + t.length) v = X
    simp only [Bool.and_eq_true, decide_eq_true_eq]
    have h1 := Int.le_ediv_iff_mul_le (a := (bx.getD k (0, 0)).1) (b := X) p
    have h2 := Int.ediv_lt_iff_lt_mul (a := X) (b := (bx.getD k (0, 0)).2 + 1) p
    constructor
    · rintro ⟨a, b⟩
      exact ⟨h1.mpr a, by have := h2.mpr (by omega); omega⟩
    · rintro ⟨a, b⟩
      exact ⟨h1.mp a, by have := h2.mp (by omega); omega⟩
  constructor <;> intro h k hk
  · exact (key k hk).mp (h k hk)
  · exact (key k hk).mpr (h k hk)
/-- counts over rows of as many finer keys -/
theorem count_const {p : Int → Bool} {a : Int} {c : Bool} : ∀ m : Nat, (∀ i : Nat, i < m → p (a + i) = c) → countK p a m = if c = true then (m : Int) else 0
  | 0, _ => by
    cases c <;> rfl
  | m + 1, h => by
    rw [countK, count_const m fun i hi => h i (by omega), h m (by omega)]
    cases c
    · rfl
    · show (m : Int) + 1 = ((m + 1 : Nat) : Int)
      omega
theorem count_fine {p q : Int → Bool} {S : Nat} (hS : 0 < S) (h : ∀ v : Int, 0 ≤ v → q v = p (v / S)) : ∀ K : Nat, countK q 0 (K * S) = countK p 0 K * S
  | 0 => by rw [Nat.zero_mul]; show (0 : Int) = 0 * _; rw [Int.zero_mul]
  | K + 1 => by
    rw [Nat.succ_mul, countK_add, count_fine hS h K, countK, Int.add_mul, Int.zero_add, Int.zero_add]
    have e := count_const (p := q) (a := ((K * S : Nat) : Int)) (c := p K) S fun i hi => by
      rw [h _ (by omega)]
      congr 1
      have e1 : ((K * S : Nat) : Int) + (i : Int) = ((K * S + i : Nat) : Int) := by omega
      rw [e1, ← Int.natCast_ediv]
      congr 1
      rw [Nat.mul_comm, Nat.mul_add_div hS, Nat.div_eq_of_lt hi, Nat.add_zero]
    rw [e]
    cases p K
    · rw [if_neg (by decide), if_neg (by decide), Int.zero_mul]
    · rw [if_pos rfl, if_pos rfl, Int.one_mul]
theorem count_fine_rest {p q : Int → Bool} {S : Nat} (hS : 0 < S) (h : ∀ v : Int, 0 ≤ v → q v = p (v / S)) (K r : Nat) (hr : r ≤ S) : countK q 0 (K * S + r) = countK p 0 K * S + (if p K = true then (r : Int) else 0) := by
  rw [countK_add, count_fine hS h K, Int.zero_add]
  congr 1
  refine count_const r fun i hi => ?_
  rw [h _ (by omega)]
  congr 1
  have e1 : ((K * S : Nat) : Int) + (i : Int) = ((K * S + i : Nat) : Int) := by omega
  rw [e1, ← Int.natCast_ediv]
  congr 1
  rw [Nat.mul_comm, Nat.mul_add_div hS, Nat.div_eq_of_lt (by omega), Nat.add_zero]
/-- one key alone has so many ahead of it -/
theorem count_mono (p : Int → Bool) {a b : Nat} (h : a ≤ b) : countK p 0 a ≤ countK p 0 b := by
  obtain ⟨c, rfl⟩ := Nat.exists_eq_add_of_le h
  rw [countK_add]
  have := countK_nn p (0 + (a : Int)) c
  omega
theorem count_uniq {p : Int → Bool} {a b : Nat} (ha : p a = true) (hb : p b = true) (h : countK p 0 a = countK p 0 b) : a = b := by
  have key : ∀ {x y : Nat}, p x = true → x < y → countK p 0 x < countK p 0 y := fun {x y} hx hxy => by
    have h1 := count_mono p (a := x + 1) (b := y) hxy
    rw [countK, Int.zero_add, hx, if_pos rfl] at h1
    omega
  rcases Nat.lt_trichotomy a b with l | l | l
  · have := key ha l
    omega
  · exact l
  · have := key hb l
    omega
/-- the i-th of the list -/
theorem listB_get (p : Int → Bool) : ∀ (m i : Nat) (x : Int), (listB p m)[i]? = some x → 0 ≤ x ∧ x < m ∧ p x = true ∧ countK p 0 x.toNat = i
  | 0, i, x, h => by cases h
  | m + 1, i, x, h => by
    rw [listB_succ] at h
    by_cases hp : p ((m : Nat) : Int) = true
    · rw [if_pos hp] at h
      by_cases hi : i < (listB p m).length
      · rw [List.getElem?_append_left hi] at h
        obtain ⟨a, b, c, d⟩ := listB_get p m i x h
        exact ⟨a, by omega, c, d⟩
      · rw [List.getElem?_append_right (by omega)] at h
        have hl := (List.getElem?_eq_some_iff.mp h).1
        simp only [List.length_singleton] at hl
        have e : i = (listB p m).length := by omega
        rw [e, Nat.sub_self] at h
        cases h
        refine ⟨by omega, by omega, hp, ?_⟩
        rw [Int.toNat_natCast, ← listB_len, e]
    · rw [if_neg hp] at h
      obtain ⟨a, b, c, d⟩ := listB_get p m i x h
      exact ⟨a, by omega, c, d⟩
theorem listB_less (p : Int → Bool) : ∀ (m K : Nat), K ≤ m → (((listB p m).filter fun x => decide (x < (K : Int))).length : Int) = countK p 0 K
  | 0, K, h => by
    have : K = 0 := by omega
    subst this
    rfl
  | m + 1, K, h => by
    rw [listB_succ]
    by_cases e : K = m + 1
    · subst e
      have all : ∀ m' : Nat, m' ≤ m + 1 → ((listB p m').filter fun x => decide (x < ((m + 1 : Nat) : Int))) = listB p m' := fun m' hm' => by
        rw [List.filter_eq_self]
        intro x hx
        have := (listB_mem.mp hx).2.1
        exact decide_eq_true (by omega)
      have := all (m + 1) (Nat.le_refl _)
      rw [listB_succ] at this
      rw [this, ← listB_succ, listB_len]
    · have ih := listB_less p m K (by omega)
      by_cases hp : p ((m : Nat) : Int) = true
      · rw [if_pos hp, List.filter_append, List.filter_cons, if_neg (by rw [decide_eq_true_eq]; omega), List.filter_nil, List.append_nil]
        exact ih
      · rw [if_neg hp]
        exact ih
end WK
namespace WM
/-- a sum over the first n -/
def sumI (f : Nat → Int) : Nat → Int
  | 0 => 0
  | n + 1 => sumI f n + f n
theorem sumI_congr {f g : Nat → Int} : ∀ {n : Nat}, (∀ i, i < n → f i = g i) → sumI f n = sumI g n
  | 0, _ => rfl
  | n + 1, h => by rw [sumI, sumI, sumI_congr fun i hi => h i (Nat.lt_succ_of_lt hi), h n (Nat.lt_succ_self n)]
theorem sumI_add (f g : Nat → Int) : ∀ n : Nat, sumI (fun i => f i + g i) n = sumI f n + sumI g n
  | 0 => rfl
  | n + 1 => by
    rw [sumI, sumI, sumI, sumI_add f g n]
    omega
theorem sumI_sub (f g : Nat → Int) : ∀ n : Nat, sumI (fun i => f i - g i) n = sumI f n - sumI g n
  | 0 => rfl
  | n + 1 => by
    rw [sumI, sumI, sumI, sumI_sub f g n]
    omega
theorem sumI_const (c : Int) : ∀ n : Nat, sumI (fun _ => c) n = (n : Int) * c
  | 0 => by rw [sumI]; simp
  | n + 1 => by
    rw [sumI, sumI_const c n, Int.natCast_add, Int.add_mul]
    simp
theorem sumI_zero (n : Nat) : sumI (fun _ => 0) n = 0 := by rw [sumI_const, Int.mul_zero]
theorem sumI_swap (f : Nat → Nat → Int) (m : Nat) : ∀ n : Nat, sumI (fun x => sumI (fun p => f x p) m) n = sumI (fun p => sumI (fun x => f x p) n) m
  | 0 => (sumI_zero m).symm
  | n + 1 => by
    rw [sumI, sumI_swap f m n, ← sumI_add]
    rfl
theorem sumI_head (f : Nat → Int) : ∀ n : Nat, sumI f (n + 1) = f 0 + sumI (fun i => f (i + 1)) n
  | 0 => by rw [sumI, sumI, sumI]; omega
  | n + 1 => by
    rw [sumI, sumI_head f n, sumI]
    omega
theorem sumI_rev (f : Nat → Int) : ∀ n : Nat, sumI (fun i => f (n - 1 - i)) n = sumI f n
  | 0 => rfl
  | n + 1 => by
    rw [sumI_head, sumI, ← sumI_rev f n, Int.add_comm]
    congr 1
    exact sumI_congr fun i hi => by
      show f (n + 1 - 1 - (i + 1)) = _
      congr 1
      omega
theorem ifc {p q : Prop} [Decidable p] [Decidable q] {a b : Int} (h : p ↔ q) : (if p then a else b) = if q then a else b := by
  by_cases g : p
  · rw [if_pos g, if_pos (h.mp g)]
  · rw [if_neg g, if_neg fun z => g (h.mpr z)]
/-- how many i below n lie in [a, b) -/
theorem cnt_range (a b : Int) (ha : 0 ≤ a) : ∀ n : Nat, b ≤ n → sumI (fun i => if a ≤ (i : Int) ∧ (i : Int) < b then 1 else 0) n = max 0 (b - a)
  | 0, hb => by
    rw [sumI]
    omega
  | n + 1, hb => by
    rw [sumI]
    by_cases h : b ≤ n
    · rw [cnt_range a b ha n h, if_neg (by omega)]
      omega
    · have e : b = n + 1 := by omega
      subst e
      have := cnt_range a n ha n (Int.le_refl _)
      rw [sumI_congr (g := fun i : Nat => if a ≤ (i : Int) ∧ (i : Int) < (n : Int) then 1 else 0) fun i hi => by
        by_cases g : a ≤ (i : Int)
        · rw [if_pos ⟨g, by omega⟩, if_pos ⟨g, by omega⟩]
        · rw [if_neg fun z => g z.1, if_neg fun z => g z.1], this]
      by_cases g : a ≤ (n : Int)
      · rw [if_pos ⟨g, by omega⟩]
        omega
      · rw [if_neg fun z => g z.1]
        omega
/-! ### blocks and middles at all positions -/
def bkn (B x s : Int) : Int := max 0 ((x + s) / B - (x + B - 1) / B)
def mdn (h x s : Int) : Int := (x + s - 1) / h - x / h - (x + s - 1) / (2 * h) + x / (2 * h)
def pos (most s lo hi : Int) : Int := if hi - lo < s then max 0 (min lo most - max 0 (hi - s + 1) + 1) else 0
theorem le_div {B x p : Int} (hB : 0 < B) : p ≤ x / B ↔ p * B ≤ x := Int.le_ediv_iff_mul_le hB
theorem up_div {B x p : Int} (hB : 0 < B) : (x + B - 1) / B ≤ p ↔ x ≤ p * B := by
  have h1 : (x + B - 1) / B < p + 1 ↔ x + B - 1 < (p + 1) * B := Int.ediv_lt_iff_lt_mul hB
  rw [Int.add_mul, Int.one_mul] at h1
  omega
theorem blk_count {B m s x : Nat} {most : Int} (hB : 0 < B) (hm : most = (m * B : Nat) - (s : Int)) (hx : (x : Int) ≤ most) : sumI (fun p => if (x : Int) ≤ p * B ∧ (p : Int) * B + B ≤ x + s then 1 else 0) m = bkn B x s := by
  have hB' : (0 : Int) < B := by omega
  have e : ∀ p : Nat, ((x : Int) ≤ p * B ∧ (p : Int) * B + B ≤ x + s) ↔ (((x : Int) + B - 1) / B ≤ (p : Int) ∧ (p : Int) < ((x : Int) + s) / B) := fun p => by
    have h1 := up_div (x := x) (p := p) hB'
    have h2 := le_div (x := (x : Int) + s) (p := (p : Int) + 1) hB'
    rw [Int.add_mul, Int.one_mul] at h2
    omega
  rw [(sumI_congr fun p _ => ifc (e p) : sumI _ m = _), cnt_range _ _ (Int.ediv_nonneg (by omega) (by omega)) m (by
    have h1 : ((x : Int) + s) / B < m + 1 ↔ (x : Int) + s < (m + 1) * B := Int.ediv_lt_iff_lt_mul hB'
    have h2 : ((m : Int) + 1) * B = (m * B : Nat) + B := by
      rw [Int.add_mul, Int.one_mul]
      omega
    omega)]
  rfl
theorem pos_count {s : Nat} {most lo hi : Int} (hm : 0 ≤ most) (hl : 0 ≤ lo) : sumI (fun x => if (x : Int) ≤ lo ∧ hi + 1 ≤ x + s then 1 else 0) (most.toNat + 1) = pos most s lo hi := by
  have e : ∀ x : Nat, x < most.toNat + 1 → (((x : Int) ≤ lo ∧ hi + 1 ≤ x + s) ↔ (max 0 (hi - s + 1) ≤ (x : Int) ∧ (x : Int) < min lo most + 1)) := fun x hx => by omega
  rw [(sumI_congr fun p hp => ifc (e p hp) : sumI _ (most.toNat + 1) = _), cnt_range _ _ (by omega) _ (by omega)]
  unfold pos
  split <;> omega
theorem blk_swap {B m s : Nat} {most : Int} (hB : 0 < B) (hm : most = (m * B : Nat) - (s : Int)) (h0 : 0 ≤ most) :
    sumI (fun x => bkn B x s) (most.toNat + 1) = sumI (fun p => pos most s ((p : Int) * B) ((p : Int) * B + B - 1)) m := by
  rw [sumI_congr fun x hx => (blk_count (m := m) hB hm (by omega)).symm, sumI_swap]
  refine sumI_congr fun p hp => ?_
  have := Int.mul_nonneg (show (0 : Int) ≤ p by omega) (show (0 : Int) ≤ B by omega)
  rw [← pos_count h0 this]
  exact sumI_congr fun x hx => by rw [show (p : Int) * B + B - 1 + 1 = p * B + B by omega]
theorem odd_div {h y : Int} (hh : 0 < h) : (y + h) / (2 * h) = y / h - y / (2 * h) := by
  have h2 : (0 : Int) < 2 * h := by omega
  have e1 := Int.mul_ediv_add_emod y (2 * h)
  have r0 := Int.emod_nonneg y (show 2 * h ≠ 0 by omega)
  have r1 := Int.emod_lt_of_pos y h2
  generalize y / (2 * h) = q at *
  generalize y % (2 * h) = r at *
  have e2 : y = r + q * 2 * h := by rw [← e1, Int.mul_comm (2 * h) q, Int.mul_assoc, Int.add_comm]
  have e3 : y + h = (r + h) + q * (2 * h) := by rw [e2, Int.mul_assoc]; omega
  rw [e3, Int.add_mul_ediv_right _ _ (by omega), e2, Int.add_mul_ediv_right _ _ (by omega)]
  by_cases g : r < h
  · rw [Int.ediv_eq_zero_of_lt (show 0 ≤ r + h by omega) (by omega), Int.ediv_eq_zero_of_lt r0 g]
    omega
  · have e4 : r + h = (r - h) + 1 * (2 * h) := by omega
    have e5 : r = (r - h) + 1 * h := by omega
    rw [e4, Int.add_mul_ediv_right _ _ (by omega), Int.ediv_eq_zero_of_lt (show 0 ≤ r - h by omega) (by omega)]
    rw [show r / h = ((r - h) + 1 * h) / h by rw [← e5], Int.add_mul_ediv_right _ _ (by omega), Int.ediv_eq_zero_of_lt (show 0 ≤ r - h by omega) (by omega)]
    omega
theorem mid_count {h m s x : Nat} {most : Int} (hh : 0 < h) (hm : most = (m * (2 * h) : Nat) - (s : Int)) (hs : 1 ≤ s) (hx : (x : Int) ≤ most) :
    sumI (fun p => if (x : Int) ≤ (p : Int) * (2 * h) + h - 1 ∧ (p : Int) * (2 * h) + h + 1 ≤ x + s then 1 else 0) m = mdn h x s := by
  have h2 : (0 : Int) < 2 * h := by omega
  have e : ∀ p : Nat, ((x : Int) ≤ (p : Int) * (2 * h) + h - 1 ∧ (p : Int) * (2 * h) + h + 1 ≤ x + s) ↔ (((x : Int) + h) / (2 * h) ≤ (p : Int) ∧ (p : Int) < ((x : Int) + s - 1 + h) / (2 * h)) := fun p => by
    have g1 : ((x : Int) + h) / (2 * h) < (p : Int) + 1 ↔ (x : Int) + h < ((p : Int) + 1) * (2 * h) := Int.ediv_lt_iff_lt_mul h2
    have g2 := le_div (x := (x : Int) + s - 1 + h) (p := (p : Int) + 1) h2
    rw [Int.add_mul, Int.one_mul] at g1 g2
    omega
  have nn : ∀ a b : Int, a ≤ b → a / (2 * h) ≤ b / (2 * h) := fun a b hab => Int.ediv_le_ediv h2 hab
  have a1 := nn (x + h) (x + s - 1 + h) (by omega)
  rw [(sumI_congr fun p _ => ifc (e p) : sumI _ m = _), cnt_range _ _ (Int.ediv_nonneg (by omega) (by omega)) m (by
    have h1 : ((x : Int) + s - 1 + h) / (2 * h) < m + 1 ↔ (x : Int) + s - 1 + h < (m + 1) * (2 * h) := Int.ediv_lt_iff_lt_mul h2
    have h3 : ((m : Int) + 1) * (2 * h) = (m * (2 * h) : Nat) + 2 * h := by
      rw [Int.add_mul, Int.one_mul, Int.natCast_mul, Int.natCast_mul]
      rfl
    omega)]
  unfold mdn
  rw [odd_div (y := (x : Int)) (by omega), odd_div (y := (x : Int) + s - 1) (by omega)] at *
  omega
theorem mid_swap {h m s : Nat} {most : Int} (hh : 0 < h) (hm : most = (m * (2 * h) : Nat) - (s : Int)) (hs : 1 ≤ s) (h0 : 0 ≤ most) :
    sumI (fun x => mdn h x s) (most.toNat + 1) = sumI (fun p => pos most s ((p : Int) * (2 * h) + h - 1) ((p : Int) * (2 * h) + h)) m := by
  rw [sumI_congr fun x hx => (mid_count (m := m) hh hm hs (by omega)).symm, sumI_swap]
  refine sumI_congr fun p hp => ?_
  have := Int.mul_nonneg (show (0 : Int) ≤ p by omega) (show (0 : Int) ≤ 2 * h by omega)
  rw [← pos_count h0 (by omega)]
/-! ### closed forms -/
def allB (B m most s : Int) : Int := if s < B then 0 else 2 * (B * (most / B) * (most / B + 1) / 2 + (m - 1 - most / B) * most) - m * most + m
def fewM (h most : Int) : Int := ((most + 1) / h + 1) / 2
def allM (h m most s : Int) : Int := if s < 2 then 0 else 2 * (h * fewM h most * fewM h most - fewM h most + (m - fewM h most) * most) - m * most + m
theorem tri (B : Int) : ∀ k : Nat, sumI (fun p => (p : Int) * B) (k + 1) * 2 = B * k * (k + 1)
  | 0 => by rw [sumI, sumI]; simp
  | k + 1 => by
    rw [sumI, Int.add_mul, tri B k]
    simp only [Int.natCast_add, Int.natCast_one, Int.mul_add, Int.add_mul, Int.one_mul, Int.mul_one]
    rw [Int.mul_comm (k : Int) B]
    omega
theorem odds (h : Int) : ∀ k : Nat, sumI (fun p => (p : Int) * (2 * h) + h - 1) k = h * k * k - k
  | 0 => by rw [sumI]; simp
  | k + 1 => by
    rw [sumI, odds h k]
    simp only [Int.natCast_add, Int.natCast_one, Int.mul_add, Int.add_mul, Int.one_mul, Int.mul_one]
    rw [show (k : Int) * (2 * h) = 2 * (h * k) by rw [Int.mul_comm h, Int.mul_left_comm]]
    omega
theorem sumI_tail (f : Nat → Int) (c : Int) (k : Nat) (h : ∀ i, k ≤ i → f i = c) : ∀ j : Nat, sumI f (k + j) = sumI f k + j * c
  | 0 => by simp
  | j + 1 => by
    rw [← Nat.add_assoc, sumI, sumI_tail f c k h j, h _ (by omega), Int.natCast_add, Int.add_mul]
    omega
theorem pos_sum {m : Nat} {most : Int} {q g : Nat → Int} (hq : ∀ p, p < m → q p = g p + g (m - 1 - p) - most + 1) : sumI q m = 2 * sumI g m - m * most + m := by
  rw [(sumI_congr hq : sumI q m = _)]
  have e : sumI (fun p => g p + g (m - 1 - p) - most + 1) m = sumI (fun p => (g p + g (m - 1 - p)) + (1 - most)) m := sumI_congr fun p _ => by omega
  rw [e, sumI_add, sumI_add, sumI_rev g m, sumI_const, Int.mul_sub]
  omega
theorem blk_closed {B m s : Nat} {most : Int} (hB : 0 < B) (hm : most = (m * B : Nat) - (s : Int)) (hs : 1 ≤ s) (h0 : 0 ≤ most) :
    sumI (fun p => pos most s ((p : Int) * B) ((p : Int) * B + B - 1)) m = allB B m most s := by
  unfold allB
  have hB' : (0 : Int) < B := by omega
  rw [Int.natCast_mul] at hm
  split
  · rw [← sumI_zero m]
    refine sumI_congr fun p _ => ?_
    unfold pos
    rw [if_neg (by omega)]
  · rename_i hsB
    have l0 : 0 ≤ most / B := Int.ediv_nonneg h0 (by omega)
    have l1 : most / B < m := (Int.ediv_lt_iff_lt_mul hB').mpr (by omega)
    obtain ⟨k, hk⟩ := Int.eq_ofNat_of_zero_le l0
    rw [hk] at l1 ⊢
    have hle : ∀ p : Nat, (p ≤ k ↔ (p : Int) * B ≤ most) := fun p => by
      rw [← le_div hB', hk]
      omega
    have eg : sumI (fun p => min ((p : Int) * B) most) m = B * k * (k + 1) / 2 + (m - 1 - k) * most := by
      obtain ⟨j, hj⟩ : ∃ j, m = (k + 1) + j := ⟨m - (k + 1), by omega⟩
      rw [hj, sumI_tail _ most (k + 1) fun i hi => by
        have := mt (hle i).mpr (by omega)
        omega]
      have e1 : sumI (fun p => min ((p : Int) * B) most) (k + 1) = sumI (fun p => (p : Int) * B) (k + 1) := sumI_congr fun p hp => by
        have := (hle p).mp (by omega)
        omega
      rw [e1, ← tri B k, Int.mul_ediv_cancel _ (by decide)]
      congr 2
      omega
    rw [← eg]
    refine pos_sum fun p hp => ?_
    have e2 : ((m - 1 - p : Nat) : Int) * B = m * B - p * B - B := by
      rw [show ((m - 1 - p : Nat) : Int) = m - p - 1 by omega, Int.sub_mul, Int.sub_mul, Int.one_mul]
    have e3 : (p : Int) * B + B ≤ m * B := by
      have := Int.mul_le_mul_of_nonneg_right (show (p : Int) + 1 ≤ m by omega) (show (0 : Int) ≤ B by omega)
      rw [Int.add_mul, Int.one_mul] at this
      exact this
    have e4 := Int.mul_nonneg (show (0 : Int) ≤ p by omega) (show (0 : Int) ≤ B by omega)
    show pos most s _ _ = min _ _ + min (((m - 1 - p : Nat) : Int) * B) most - most + 1
    rw [e2]
    unfold pos
    rw [if_pos (by omega)]
    omega
theorem mid_closed {h m s : Nat} {most : Int} (hh : 0 < h) (hm : most = (m * (2 * h) : Nat) - (s : Int)) (hs : 1 ≤ s) (h0 : 0 ≤ most) :
    sumI (fun p => pos most s ((p : Int) * (2 * h) + h - 1) ((p : Int) * (2 * h) + h)) m = allM h m most s := by
  unfold allM
  have hh' : (0 : Int) < h := by omega
  rw [Int.natCast_mul, Int.natCast_mul] at hm
  have hm' : most = (m : Int) * (2 * h) - s := hm
  clear hm
  split
  · rw [← sumI_zero m]
    refine sumI_congr fun p _ => ?_
    unfold pos
    rw [if_neg (by omega)]
  · rename_i hs2
    have l0 : 0 ≤ (most + 1) / h := Int.ediv_nonneg (by omega) (by omega)
    have f0 : 0 ≤ fewM h most := by
      unfold fewM
      omega
    have hle0 : ∀ p : Nat, (p : Int) < fewM h most ↔ (p : Int) * (2 * h) + h - 1 ≤ most := fun p => by
      have := le_div (x := most + 1) (p := 2 * (p : Int) + 1) hh'
      rw [Int.add_mul, Int.one_mul, show 2 * (p : Int) * h = (p : Int) * (2 * h) by rw [Int.mul_comm 2, Int.mul_assoc]] at this
      unfold fewM
      omega
    obtain ⟨k, hk⟩ := Int.eq_ofNat_of_zero_le f0
    rw [hk] at hle0 ⊢
    have hkm : k ≤ m := by
      rcases Nat.lt_or_ge m k with g | g
      · have := (hle0 m).mp (by omega)
        omega
      · exact g
    have eg : sumI (fun p => min ((p : Int) * (2 * h) + h - 1) most) m = h * k * k - k + (m - k) * most := by
      obtain ⟨j, hj⟩ : ∃ j, m = k + j := ⟨m - k, by omega⟩
      rw [hj, sumI_tail _ most k fun i hi => by
        have := mt (hle0 i).mpr (by omega)
        omega]
      have e1 : sumI (fun p => min ((p : Int) * (2 * h) + h - 1) most) k = sumI (fun p => (p : Int) * (2 * h) + h - 1) k := sumI_congr fun p hp => by
        have := (hle0 p).mp (by omega)
        omega
      rw [e1, odds h k]
      congr 2
      omega
    rw [← eg]
    refine pos_sum fun p hp => ?_
    have e2 : ((m - 1 - p : Nat) : Int) * (2 * h) = m * (2 * h) - p * (2 * h) - 2 * h := by
      rw [show ((m - 1 - p : Nat) : Int) = m - p - 1 by omega, Int.sub_mul, Int.sub_mul, Int.one_mul]
    have e3 : (p : Int) * (2 * h) + 2 * h ≤ m * (2 * h) := by
      have := Int.mul_le_mul_of_nonneg_right (show (p : Int) + 1 ≤ m by omega) (show (0 : Int) ≤ 2 * h by omega)
      rw [Int.add_mul, Int.one_mul] at this
      exact this
    have e4 := Int.mul_nonneg (show (0 : Int) ≤ p by omega) (show (0 : Int) ≤ 2 * h by omega)
    show pos most s _ _ = min _ _ + min (((m - 1 - p : Nat) : Int) * (2 * h) + h - 1) most - most + 1
    rw [e2]
    unfold pos
    rw [if_pos (by omega)]
    omega
/-! ### floors added up -/
def flo (top B : Int) : Int := if top < 0 then 0 else B * (top / B * (top / B - 1) / 2) + top / B * (top % B + 1)
theorem flo_sum {B : Int} (hB : 0 < B) : ∀ n : Nat, sumI (fun x => (x : Int) / B) n = flo (n - 1) B
  | 0 => rfl
  | n + 1 => by
    rw [sumI, flo_sum hB n]
    unfold flo
    rw [if_neg (show ¬ ((n + 1 : Nat) : Int) - 1 < 0 by omega)]
    rw [show ((n + 1 : Nat) : Int) - 1 = n by omega]
    have e1 := Int.mul_ediv_add_emod (n : Int) B
    have r0 := Int.emod_nonneg (n : Int) (show B ≠ 0 by omega)
    have r1 := Int.emod_lt_of_pos (n : Int) hB
    have w0 : 0 ≤ (n : Int) / B := Int.ediv_nonneg (by omega) (by omega)
    generalize (n : Int) / B = w at *
    generalize (n : Int) % B = r at *
    by_cases hr : r = 0
    · subst hr
      by_cases hw : w = 0
      · subst hw
        have : (n : Int) = 0 := by rw [← e1]; simp
        rw [if_pos (by omega)]
        simp
      · have hw1 : 1 ≤ w := by omega
        have hBw : B ≤ B * w := by
          have := Int.mul_le_mul_of_nonneg_left hw1 (show 0 ≤ B by omega)
          rw [Int.mul_one] at this
          exact this
        have e2 : (n : Int) - 1 = (B - 1) + (w - 1) * B := by
          rw [Int.sub_mul, Int.one_mul, Int.mul_comm w B]
          omega
        rw [if_neg (by omega), e2, Int.add_mul_ediv_right _ _ (by omega), Int.add_mul_emod_self_right, Int.ediv_eq_zero_of_lt (show 0 ≤ B - 1 by omega) (by omega), Int.emod_eq_of_lt (show 0 ≤ B - 1 by omega) (by omega)]
        have t : w * (w - 1) / 2 = (0 + (w - 1)) * ((0 + (w - 1)) - 1) / 2 + (w - 1) := by
          have : w * (w - 1) = (0 + (w - 1)) * ((0 + (w - 1)) - 1) + 2 * (w - 1) := by
            simp only [Int.mul_sub, Int.sub_mul, Int.mul_one, Int.one_mul, Int.zero_add]
            omega
          rw [this]
          omega
        rw [t, Int.mul_add]
        simp only [Int.zero_add, Int.mul_one, Int.mul_sub, Int.sub_mul, Int.one_mul, Int.mul_add, Int.add_mul]
        rw [Int.mul_comm w B]
        omega
    · have e2 : (n : Int) - 1 = (r - 1) + w * B := by
        rw [Int.mul_comm w B]
        omega
      have := Int.mul_nonneg w0 (show 0 ≤ B by omega)
      rw [if_neg (by omega), e2, Int.add_mul_ediv_right _ _ (by omega), Int.add_mul_emod_self_right, Int.ediv_eq_zero_of_lt (show 0 ≤ r - 1 by omega) (by omega), Int.emod_eq_of_lt (show 0 ≤ r - 1 by omega) (by omega), Int.zero_add]
      simp only [Int.mul_add, Int.mul_one, Int.mul_sub]
      omega
theorem sumI_shift (f : Nat → Int) (k : Nat) : ∀ n : Nat, sumI (fun x => f (k + x)) n = sumI f (k + n) - sumI f k
  | 0 => by rw [sumI, Nat.add_zero]; omega
  | n + 1 => by
    rw [sumI, sumI_shift f k n, ← Nat.add_assoc, sumI]
    omega
theorem flo_shift {B : Int} (hB : 0 < B) (k n : Nat) : sumI (fun x => ((x : Int) + k) / B) n = flo (k + n - 1) B - flo (k - 1) B := by
  have := sumI_shift (fun x => (x : Int) / B) k n
  rw [flo_sum hB, flo_sum hB] at this
  rw [show (k : Int) + n - 1 = ((k + n : Nat) : Int) - 1 by omega, ← this]
  exact sumI_congr fun x _ => by
    show _ = ((k + x : Nat) : Int) / B
    rw [Int.natCast_add, Int.add_comm (k : Int)]
theorem flo_low {B : Int} (h : 0 ≤ B) (h1 : t < B) : flo t B = 0 := by
  unfold flo
  split
  · rfl
  · rw [Int.ediv_eq_zero_of_lt (by omega) h1]
    simp
theorem blk_flo {B s n : Nat} {most : Int} (hB : 0 < B) (hs : 1 ≤ s) (hn : most + 1 = n) :
    sumI (fun x => bkn B x s) n = if (s : Int) < B then 0 else flo (most + s) B - flo (s - 1) B - flo (most + B - 1) B := by
  have hB' : (0 : Int) < B := by omega
  split
  · rw [← sumI_zero n]
    refine sumI_congr fun x _ => ?_
    unfold bkn
    have := Int.ediv_le_ediv hB' (show (x : Int) + s ≤ x + B - 1 by omega)
    omega
  · have e : sumI (fun x => bkn B x s) n = sumI (fun x => ((x : Int) + s) / B - ((x : Int) + (B - 1 : Nat)) / B) n := sumI_congr fun x _ => by
      unfold bkn
      have := Int.ediv_le_ediv hB' (show (x : Int) + B - 1 ≤ x + s by omega)
      rw [show (x : Int) + (B - 1 : Nat) = x + B - 1 by omega]
      omega
    rw [e, sumI_sub, flo_shift hB', flo_shift hB', flo_low (t := ((B - 1 : Nat) : Int) - 1) (by omega) (by omega), show ((B - 1 : Nat) : Int) + n - 1 = most + B - 1 by omega, show (s : Int) + n - 1 = most + s by omega]
    omega
theorem mid_flo {h s n : Nat} {most : Int} (hh : 0 < h) (hs : 1 ≤ s) (hn : most + 1 = n) :
    sumI (fun x => mdn h x s) n = (flo (most + s - 1) h - flo (s - 2) h - flo most h) - (flo (most + s - 1) (2 * h) - flo (s - 2) (2 * h) - flo most (2 * h)) := by
  have hh' : (0 : Int) < h := by omega
  have e : sumI (fun x => mdn h x s) n = sumI (fun x => ((((x : Int) + (s - 1 : Nat)) / h - (x : Int) / h) - ((x : Int) + (s - 1 : Nat)) / (2 * h)) + (x : Int) / (2 * h)) n := sumI_congr fun x _ => by
    unfold mdn
    rw [show (x : Int) + (s - 1 : Nat) = x + s - 1 by omega]
  rw [e, sumI_add, sumI_sub, sumI_sub, flo_shift hh', flo_shift (by omega), flo_sum hh', flo_sum (by omega), show ((s - 1 : Nat) : Int) + n - 1 = most + s - 1 by omega, show ((s - 1 : Nat) : Int) - 1 = s - 2 by omega, show (n : Int) - 1 = most by omega]
  omega
end WM
/-! ## the cells of a box, one by one, and their keys (needs MTree, MFine) -/
namespace WK
open PySem PySem.Spec PyProof.Rows L2
def growB (p : Int × Int) (acc : List (List Int)) : List (List Int) := acc.flatMap fun c => (List.range (p.2 + 1 - p.1).toNat).map fun v : Nat => c ++ [p.1 + (v : Int)]
def cellsBx (bx : List (Int × Int)) : List (List Int) := bx.foldl (fun acc p => growB p acc) [[]]
theorem cellsBx_snoc (bx : List (Int × Int)) (p : Int × Int) : cellsBx (bx ++ [p]) = growB p (cellsBx bx) := by
  unfold cellsBx
  rw [List.foldl_append]
  rfl
theorem growB_len (p : Int × Int) (acc : List (List Int)) : (growB p acc).length = acc.length * (p.2 + 1 - p.1).toNat := by
  unfold growB
  rw [List.length_flatMap]
  simp [List.map_const']
theorem growB_snoc (p : Int × Int) (acc : List (List Int)) (c : List Int) : growB p (acc ++ [c]) = growB p acc ++ (List.range (p.2 + 1 - p.1).toNat).map fun v : Nat => c ++ [p.1 + (v : Int)] := by
  unfold growB
  rw [List.flatMap_append]
  simp
theorem mem_growB {p : Int × Int} {acc : List (List Int)} {c : List Int} : c ∈ growB p acc ↔ ∃ d, d ∈ acc ∧ ∃ v : Nat, v < (p.2 + 1 - p.1).toNat ∧ c = d ++ [p.1 + (v : Int)] := by
  unfold growB
  rw [List.mem_flatMap]
  constructor
  · rintro ⟨d, hd, h⟩
    obtain ⟨v, hv, rfl⟩ := List.mem_map.mp h
    exact ⟨d, hd, v, List.mem_range.mp hv, rfl⟩
  · rintro ⟨d, hd, v, hv, rfl⟩
    exact ⟨d, hd, List.mem_map.mpr ⟨v, List.mem_range.mpr hv, rfl⟩⟩
theorem take_at {α : Type} {xs : List α} {m : Nat} (h : m < xs.length) : xs.take (m + 1) = xs.take m ++ [xs[m]] := List.take_succ_eq_append_getElem h
theorem mem_cellsBx {bx : List (Int × Int)} : ∀ (m : Nat), m ≤ bx.length → ∀ c, c ∈ cellsBx (bx.take m) ↔ c.length = m ∧ ∀ k, k < m → (bx.getD k (0, 0)).1 ≤ c.getD k 0 ∧ c.getD k 0 ≤ (bx.getD k (0, 0)).2
  | 0, _, c => by
    rw [List.take_zero]
    constructor
    · intro h
      have : c = [] := List.mem_singleton.mp h
      rw [this]
      exact ⟨rfl, fun k hk => absurd hk (by omega)⟩
    · intro h
      rw [List.length_eq_zero_iff.mp h.1]
      exact List.mem_singleton.mpr rfl
  | m + 1, hm, c => by
    have hb : bx.getD m (0, 0) = bx[m] := by rw [List.getD_eq_getElem?_getD, List.getElem?_eq_getElem hm]; rfl
    rw [take_at hm, cellsBx_snoc, mem_growB]
    constructor
    · rintro ⟨d, hd, v, hv, rfl⟩
      obtain ⟨h1, h2⟩ := (mem_cellsBx m (by omega) d).mp hd
      refine ⟨by rw [List.length_append, h1]; rfl, fun k hk => ?_⟩
      by_cases e : k < m
      · rw [getD_snoc_lt (by omega)]
        exact h2 k e
      · have : k = m := by omega
        subst this
        rw [getD_snoc_eq h1.symm, hb]
        omega
    · rintro ⟨h1, h2⟩
      obtain ⟨l1, l2⟩ := h2 m (by omega)
      rw [hb] at l1 l2
      refine ⟨c.take m, (mem_cellsBx m (by omega) _).mpr ⟨by rw [List.length_take]; omega, fun k hk => ?_⟩, (c.getD m 0 - bx[m].1).toNat, by omega, ?_⟩
      · have e : (c.take m).getD k 0 = c.getD k 0 := by rw [List.getD_eq_getElem?_getD, List.getElem?_take_of_lt hk, ← List.getD_eq_getElem?_getD]
        rw [e]
        exact h2 k (by omega)
      · have hc : m < c.length := by omega
        have e : c.getD m 0 = c[m] := by rw [List.getD_eq_getElem?_getD, List.getElem?_eq_getElem hc]; rfl
        rw [show bx[m].1 + (((c.getD m 0 - bx[m].1).toNat : Nat) : Int) = c[m] by omega, ← take_at hc, List.take_of_length_le (by omega)]
theorem cellsBx_nodup {bx : List (Int × Int)} : ∀ (m : Nat), m ≤ bx.length → (cellsBx (bx.take m)).Nodup
  | 0, _ => by
    rw [List.take_zero]
    exact List.nodup_cons.mpr ⟨by simp, List.nodup_nil⟩
  | m + 1, hm => by
    rw [take_at hm, cellsBx_snoc]
    refine nodup_flatMap _ _ (cellsBx_nodup m (by omega)) (fun c hc => ?_) fun c hc d hd z h1 h2 => ?_
    · rw [List.nodup_iff_pairwise_ne, List.pairwise_map]
      refine List.Pairwise.imp ?_ (List.nodup_iff_pairwise_ne.mp List.nodup_range)
      intro x y hxy e
      have := List.append_cancel_left e
      simp only [List.cons.injEq, and_true] at this
      omega
    · obtain ⟨v, _, rfl⟩ := List.mem_map.mp h1
      obtain ⟨u, _, e⟩ := List.mem_map.mp h2
      exact (List.append_inj e (by rw [((mem_cellsBx m (by omega) c).mp hc).1, ((mem_cellsBx m (by omega) d).mp hd).1])).1.symm
theorem cellsBx_le {sh : List Int} {bx : List (Int × Int)} (hb : BoxSh sh bx) : ∀ m, m ≤ sh.length → (cellsBx (bx.take m)).length ≤ (cellsOf (sh.take m)).length
  | 0, _ => by rw [List.take_zero, List.take_zero]; exact Nat.le_refl _
  | m + 1, hm => by
    have hm2 : m < bx.length := by rw [hb.len]; exact hm
    rw [take_at hm2, take_at hm, cellsBx_snoc, cellsOf_snoc, growB_len, grow_len]
    have e1 : bx.getD m (0, 0) = bx[m] := by rw [List.getD_eq_getElem?_getD, List.getElem?_eq_getElem hm2]; rfl
    have e2 : sh.getD m 0 = sh[m] := by rw [List.getD_eq_getElem?_getD, List.getElem?_eq_getElem hm]; rfl
    have h0 := hb.lo m hm
    have h1 := hb.le m hm
    have h2 := hb.hi m hm
    rw [e1] at h0 h1 h2
    rw [e2, pow_nat] at h2
    exact Nat.mul_le_mul (cellsBx_le hb m (by omega)) (by omega)
theorem cellsBx_card {bx : List (Int × Int)} : ∀ m, m ≤ bx.length → (∀ p ∈ bx, p.1 ≤ p.2) → ((cellsBx (bx.take m)).length : Int) = prodI ((bx.take m).map fun p => p.2 - p.1 + 1)
  | 0, _, _ => by rw [List.take_zero]; rfl
  | m + 1, hm, h => by
    have hx := h _ (List.getElem_mem hm)
    have snoc : ∀ (xs : List Int) (x : Int), prodI (xs ++ [x]) = prodI xs * x := fun xs x => by
      induction xs with
      | nil => show x * 1 = 1 * x; omega
      | cons y ys ih => show y * prodI (ys ++ [x]) = y * prodI ys * x; rw [ih, Int.mul_assoc]
    rw [take_at hm, cellsBx_snoc, growB_len, Int.natCast_mul, cellsBx_card m (by omega) h, List.map_append, List.map_cons, List.map_nil, snoc]
    congr 1
    omega
/-- the keys of all cells of a box, sorted, are the keys in the box -/
theorem keys_listB {l : List Nat} {sh : List Int} {bx : List (Int × Int)} {ns : List Int} (hW : WOk l sh.length) (hl : cnts l sh.length = sh) (hb : BoxSh sh bx)
    (hp : ns.Perm ((cellsBx bx).map fun c => keyN l c l.length)) (hs : ns.Pairwise (· ≤ ·)) : ns = listB (inB l bx) (2 ^ l.length) := by
  have mem : ∀ c, c ∈ cellsBx bx ↔ c.length = bx.length ∧ ∀ k, k < bx.length → (bx.getD k (0, 0)).1 ≤ c.getD k 0 ∧ c.getD k 0 ≤ (bx.getD k (0, 0)).2 := fun c => by
    have := mem_cellsBx (bx := bx) bx.length (Nat.le_refl _) c
    rwa [List.take_length] at this
  have sh_at : ∀ k, k < sh.length → sh.getD k 0 = (l.count (97 + k) : Nat) := fun k hk => cnts_get hl hk
  have ok : ∀ c, c ∈ cellsBx bx → CellOk l bx.length c := fun c hc => by
    obtain ⟨h1, h2⟩ := (mem c).mp hc
    refine ⟨h1, fun k hk => ?_, fun k hk => ?_⟩
    · have := hb.lo k (by rw [← hb.len]; exact hk)
      have := (h2 k hk).1
      omega
    · have := hb.hi k (by rw [← hb.len]; exact hk)
      rw [sh_at k (by rw [← hb.len]; exact hk), Int.toNat_natCast] at this
      have := (h2 k hk).2
      omega
  have nd : ((cellsBx bx).map fun c => keyN l c l.length).Nodup := by
    rw [List.nodup_iff_pairwise_ne, List.pairwise_map]
    have nd := cellsBx_nodup (bx := bx) bx.length (Nat.le_refl _)
    rw [List.take_length] at nd
    refine List.Pairwise.imp_of_mem ?_ (List.nodup_iff_pairwise_ne.mp nd)
    intro c d hc hd hne e
    exact hne (keyN_inj (ok c hc) (ok d hd) e)
  refine asc_ext _ _ ?_ (listB_asc _ _) fun x => ?_
  · exact (hs.and (hp.nodup_iff.mpr nd)).imp fun {a b} h => by
      have := h.1
      have := h.2
      omega
  · rw [hp.mem_iff, listB_mem, List.mem_map]
    constructor
    · rintro ⟨c, hc, rfl⟩
      obtain ⟨k0, k1⟩ := keyN_bound l c l.length
      refine ⟨k0, by rw [← pow_nat]; exact k1, ?_⟩
      rw [inB_key (ok c hc)]
      unfold inC
      rw [List.all_eq_true]
      intro k hk
      obtain ⟨h1, h2⟩ := ((mem c).mp hc).2 k (List.mem_range.mp hk)
      rw [Bool.and_eq_true, decide_eq_true_iff, decide_eq_true_iff]
      exact ⟨h1, h2⟩
    · rintro ⟨h0, h1, h2⟩
      rw [← pow_nat] at h1
      have hn := nums_ok l x bx.length
      refine ⟨nums l x bx.length l.length, (mem _).mpr ⟨hn.len, fun k hk => ?_⟩, key_back (by rw [hb.len]; exact hW.rng) h0 h1⟩
      rw [← key_back (l := l) (n := bx.length) (by rw [hb.len]; exact hW.rng) h0 h1, inB_key hn] at h2
      unfold inC at h2
      rw [List.all_eq_true] at h2
      have := h2 k (List.mem_range.mpr hk)
      rw [Bool.and_eq_true, decide_eq_true_iff, decide_eq_true_iff] at this
      exact this
end WK
/-! ## finer weaves: which they are; the ends of a box -/
namespace WK
open PySem PySem.Spec PyProof.Rows L2
theorem wok_more {l t : List Nat} {n : Nat} (h : WOk l n) (ht : ∀ c ∈ t, 97 ≤ c ∧ c < 97 + n) (hc : ∀ k, k < n → l.count (97 + k) + t.count (97 + k) ≤ 120) (hl : l.length + t.length ≤ 240) : WOk (l ++ t) n := by
  have n4 := h.n4
  refine ⟨h.n1, h.n4, fun k hk => ?_, fun k hk => ?_, fun k h1 h2 => ?_, fun c hc => ?_, ?_⟩
  · rw [List.count_append]
    have := h.lo k hk
    omega
  · rw [List.count_append]
    exact hc k hk
  · rw [List.count_append, h.no k h1 h2, List.count_eq_zero.mpr (fun hm => ?_)]
    have := ht _ hm
    omega
  · rcases List.mem_append.mp hc with g | g
    · exact h.al c g
    · have := ht c g
      omega
  · rw [List.length_append]
    exact hl
theorem wide_ok {l t : List Nat} {bx : List (Int × Int)} {more : List Int} {n : Nat} (h : BoxOk l n bx) (hm : ∀ k, k < n → (t.count (97 + k) : Int) = more.getD k 0) : BoxOk (l ++ t) n (wideB bx more) := by
  have g : ∀ k, k < n → (wideB bx more).getD k (0, 0) = ((bx.getD k (0, 0)).1 * 2 ^ t.count (97 + k), ((bx.getD k (0, 0)).2 + 1) * 2 ^ t.count (97 + k) - 1) := fun k hk => by
    rw [wideB_get (by rw [h.len]; exact hk), ← hm k hk, Int.toNat_natCast]
  refine ⟨by rw [wideB_len, h.len], fun k hk => ?_, fun k hk => ?_, fun k hk => ?_⟩ <;> rw [g k hk] <;> have h0 := h.lo k hk <;> have h1 := h.le k hk <;> have h2 := h.hi k hk <;> have hp := pow_pos' (t.count (97 + k))
  · exact Int.mul_nonneg h0 (Int.le_of_lt hp)
  · have : (bx.getD k (0, 0)).1 * 2 ^ t.count (97 + k) < ((bx.getD k (0, 0)).2 + 1) * 2 ^ t.count (97 + k) := Int.mul_lt_mul_of_pos_right (by omega) hp
    show _ * _ ≤ _ * _ - 1
    omega
  · have : ((bx.getD k (0, 0)).2 + 1) * 2 ^ t.count (97 + k) ≤ 2 ^ l.count (97 + k) * 2 ^ t.count (97 + k) := Int.mul_le_mul_of_nonneg_right (by omega) (Int.le_of_lt hp)
    rw [List.count_append, Int.pow_add]
    show _ * _ - 1 < _
    omega
end WK
set_option synthInstance.maxSize 100000
set_option synthInstance.maxHeartbeats 0
namespace K15
open PySem PySem.Spec PyProof.Rows L2 WK
/-! ## the text, by places -/
def top (i : Nat) : Stmt := PySem.Challenge.pw_wovenkeys_k15_pairs_at_each_step.main.body.getD i (.Pass ⟨0, 0, 0, 0⟩)
abbrev s_blocks_in : Stmt := top 1
abbrev N_blocks_in : List Str := ["bits", "low", "high", "told", "size"]
theorem sc_blocks_in : FnScope N_blocks_in ["bits", "low", "high", "told"] (defScope s_blocks_in) := ⟨rfl, rfl, rfl, by decide +kernel, rfl, by decide +kernel, by decide +kernel⟩
abbrev s_middles_in : Stmt := top 2
abbrev N_middles_in : List Str := ["bits", "low", "high", "told", "half"]
theorem sc_middles_in : FnScope N_middles_in ["bits", "low", "high", "told"] (defScope s_middles_in) := ⟨rfl, rfl, rfl, by decide +kernel, rfl, by decide +kernel, by decide +kernel⟩
abbrev s_is_int : Stmt := top 13
abbrev N_is_int : List Str := ["value"]
theorem sc_is_int : FnScope N_is_int ["value"] (defScope s_is_int) := ⟨rfl, rfl, rfl, by decide +kernel, rfl, by decide +kernel, by decide +kernel⟩
abbrev s_is_stretch : Stmt := top 14
abbrev N_is_stretch : List Str := ["bits", "value"]
theorem sc_is_stretch : FnScope N_is_stretch ["bits", "value"] (defScope s_is_stretch) := ⟨rfl, rfl, rfl, by decide +kernel, rfl, by decide +kernel, by decide +kernel⟩
abbrev s_is_box_of : Stmt := top 15
abbrev N_is_box_of : List Str := ["shape", "value", "bits", "stretch"]
theorem sc_is_box_of : FnScope N_is_box_of ["shape", "value"] (defScope s_is_box_of) := ⟨rfl, rfl, rfl, by decide +kernel, rfl, by decide +kernel, by decide +kernel⟩
abbrev s_require_box : Stmt := top 16
abbrev N_require_box : List Str := ["shape", "value"]
theorem sc_require_box : FnScope N_require_box ["shape", "value"] (defScope s_require_box) := ⟨rfl, rfl, rfl, by decide +kernel, rfl, by decide +kernel, by decide +kernel⟩
abbrev s_read_times : Stmt := top 21
abbrev N_read_times : List Str := ["text", "at", "end"]
theorem sc_read_times : FnScope N_read_times ["text", "at"] (defScope s_read_times) := ⟨rfl, rfl, rfl, by decide +kernel, rfl, by decide +kernel, by decide +kernel⟩
abbrev s_read_parts : Stmt := top 22
abbrev N_read_parts : List Str := ["text", "at", "depth", "found", "content", "end", "times"]
theorem sc_read_parts : FnScope N_read_parts ["text", "at", "depth"] (defScope s_read_parts) := ⟨rfl, rfl, rfl, by decide +kernel, rfl, by decide +kernel, by decide +kernel⟩
abbrev s_count_letter : Stmt := top 23
abbrev N_count_letter : List Str := ["parts", "letter", "found", "content", "times"]
theorem sc_count_letter : FnScope N_count_letter ["parts", "letter"] (defScope s_count_letter) := ⟨rfl, rfl, rfl, by decide +kernel, rfl, by decide +kernel, by decide +kernel⟩
abbrev s_written : Stmt := top 24
abbrev N_written : List Str := ["parts", "content", "times"]
theorem sc_written : FnScope N_written ["parts"] (defScope s_written) := ⟨rfl, rfl, rfl, by decide +kernel, rfl, by decide +kernel, by decide +kernel⟩
abbrev s_read_weave : Stmt := top 25
abbrev N_read_weave : List Str := ["text", "parts", "at", "counts", "letter"]
theorem sc_read_weave : FnScope N_read_weave ["text"] (defScope s_read_weave) := ⟨rfl, rfl, rfl, by decide +kernel, rfl, by decide +kernel, by decide +kernel⟩
abbrev s_Weave___init__ : Stmt := inClass (top 27) 0
abbrev N_Weave___init__ : List Str := ["self", "text", "letter"]
theorem sc_Weave___init__ : FnScope N_Weave___init__ ["self", "text"] (defScope s_Weave___init__) := ⟨rfl, rfl, rfl, by decide +kernel, rfl, by decide +kernel, by decide +kernel⟩
abbrev s_Weave_letters : Stmt := inClass (top 27) 1
abbrev N_Weave_letters : List Str := ["self"]
theorem sc_Weave_letters : FnScope N_Weave_letters ["self"] (defScope s_Weave_letters) := ⟨rfl, rfl, rfl, by decide +kernel, rfl, by decide +kernel, by decide +kernel⟩
abbrev s_Weave_shape : Stmt := inClass (top 27) 3
abbrev N_Weave_shape : List Str := ["self"]
theorem sc_Weave_shape : FnScope N_Weave_shape ["self"] (defScope s_Weave_shape) := ⟨rfl, rfl, rfl, by decide +kernel, rfl, by decide +kernel, by decide +kernel⟩
abbrev s_require_weave : Stmt := top 28
abbrev N_require_weave : List Str := ["value"]
theorem sc_require_weave : FnScope N_require_weave ["value"] (defScope s_require_weave) := ⟨rfl, rfl, rfl, by decide +kernel, rfl, by decide +kernel, by decide +kernel⟩
abbrev s_axes_of : Stmt := top 29
abbrev N_axes_of : List Str := ["letters", "letter"]
theorem sc_axes_of : FnScope N_axes_of ["letters"] (defScope s_axes_of) := ⟨rfl, rfl, rfl, by decide +kernel, rfl, by decide +kernel, by decide +kernel⟩
abbrev s_pairs_at : Stmt := top 31
abbrev N_pairs_at : List Str := ["shape", "box", "told", "axis", "found", "place", "bits", "low", "high"]
theorem sc_pairs_at : FnScope N_pairs_at ["shape", "box", "told", "axis"] (defScope s_pairs_at) := ⟨rfl, rfl, rfl, by decide +kernel, rfl, by decide +kernel, by decide +kernel⟩
abbrev s_pairs_of : Stmt := top 32
abbrev N_pairs_of : List Str := ["weave", "box", "told", "found", "axis"]
theorem sc_pairs_of : FnScope N_pairs_of ["weave", "box"] (defScope s_pairs_of) := ⟨rfl, rfl, rfl, by decide +kernel, rfl, by decide +kernel, by decide +kernel⟩
abbrev s_cells_of : Stmt := top 33
abbrev N_cells_of : List Str := ["box", "found", "low", "high"]
theorem sc_cells_of : FnScope N_cells_of ["box"] (defScope s_cells_of) := ⟨rfl, rfl, rfl, by decide +kernel, rfl, by decide +kernel, by decide +kernel⟩
abbrev s_number_of_ranges : Stmt := top 34
abbrev N_number_of_ranges : List Str := ["weave", "box"]
theorem sc_number_of_ranges : FnScope N_number_of_ranges ["weave", "box"] (defScope s_number_of_ranges) := ⟨rfl, rfl, rfl, by decide +kernel, rfl, by decide +kernel, by decide +kernel⟩
abbrev s_count_ranges : Stmt := top 35
abbrev N_count_ranges : List Str := ["weave", "box"]
theorem sc_count_ranges : FnScope N_count_ranges ["weave", "box"] (defScope s_count_ranges) := ⟨rfl, rfl, rfl, by decide +kernel, rfl, by decide +kernel, by decide +kernel⟩
abbrev s_step_pairs : Stmt := top 36
abbrev N_step_pairs : List Str := ["weave", "box"]
theorem sc_step_pairs : FnScope N_step_pairs ["weave", "box"] (defScope s_step_pairs) := ⟨rfl, rfl, rfl, by decide +kernel, rfl, by decide +kernel, by decide +kernel⟩
abbrev s__law_bowl : Stmt := top 38
abbrev N__law_bowl : List Str := ["_law_script", "_law_k", "_law_cell"]
theorem sc__law_bowl : FnScope N__law_bowl ["_law_script", "_law_k"] (defScope s__law_bowl) := ⟨rfl, rfl, rfl, by decide +kernel, rfl, by decide +kernel, by decide +kernel⟩
abbrev s__law_pick : Stmt := top 39
abbrev N__law_pick : List Str := ["_law_bowl_here", "_law_bound", "_law_found", "_law_turn", "_law_mixed"]
theorem sc__law_pick : FnScope N__law_pick ["_law_bowl_here", "_law_bound"] (defScope s__law_pick) := ⟨rfl, rfl, rfl, by decide +kernel, rfl, by decide +kernel, by decide +kernel⟩
abbrev s__law_word : Stmt := top 40
abbrev N__law_word : List Str := ["_law_bowl_here", "_law_sizes_here", "_law_left", "_law_found", "_law_way", "_law_axis", "_law_some", "_law_one"]
theorem sc__law_word : FnScope N__law_word ["_law_bowl_here", "_law_sizes_here"] (defScope s__law_word) := ⟨rfl, rfl, rfl, by decide +kernel, rfl, by decide +kernel, by decide +kernel⟩
abbrev s__law_key : Stmt := top 41
abbrev N__law_key : List Str := ["_law_letters", "_law_sizes_here", "_law_numbers", "_law_told", "_law_found", "_law_letter", "_law_axis", "_law_bits"]
theorem sc__law_key : FnScope N__law_key ["_law_letters", "_law_sizes_here", "_law_numbers"] (defScope s__law_key) := ⟨rfl, rfl, rfl, by decide +kernel, rfl, by decide +kernel, by decide +kernel⟩
abbrev s__law_cells : Stmt := top 42
abbrev N__law_cells : List Str := ["_law_box_here", "_law_found", "_law_low", "_law_high", "_law_longer", "_law_numbers", "_law_number"]
theorem sc__law_cells : FnScope N__law_cells ["_law_box_here"] (defScope s__law_cells) := ⟨rfl, rfl, rfl, by decide +kernel, rfl, by decide +kernel, by decide +kernel⟩
abbrev s__law_sizes : Stmt := top 44
abbrev N__law_sizes : List Str := ["_law_bowl_here", "_law_most", "_law_bits", "_law_axis"]
theorem sc__law_sizes : FnScope N__law_sizes ["_law_bowl_here", "_law_most", "_law_bits"] (defScope s__law_sizes) := ⟨rfl, rfl, rfl, by decide +kernel, rfl, by decide +kernel, by decide +kernel⟩
abbrev s__law_stretch : Stmt := top 45
abbrev N__law_stretch : List Str := ["_law_bowl_here", "_law_bits", "_law_size", "_law_one", "_law_other", "_law_block", "_law_some"]
theorem sc__law_stretch : FnScope N__law_stretch ["_law_bowl_here", "_law_bits"] (defScope s__law_stretch) := ⟨rfl, rfl, rfl, by decide +kernel, rfl, by decide +kernel, by decide +kernel⟩
abbrev s__law_box : Stmt := top 46
abbrev N__law_box : List Str := ["_law_bowl_here", "_law_sizes_here", "_law_bits"]
theorem sc__law_box : FnScope N__law_box ["_law_bowl_here", "_law_sizes_here"] (defScope s__law_box) := ⟨rfl, rfl, rfl, by decide +kernel, rfl, by decide +kernel, by decide +kernel⟩
abbrev s__law_wide : Stmt := top 47
abbrev N__law_wide : List Str := ["_law_bowl_here", "_law_sizes_here", "_law_letters", "_law_more", "_law_wide_here", "_law_bits", "_law_one"]
theorem sc__law_wide : FnScope N__law_wide ["_law_bowl_here", "_law_sizes_here", "_law_letters"] (defScope s__law_wide) := ⟨rfl, rfl, rfl, by decide +kernel, rfl, by decide +kernel, by decide +kernel⟩
abbrev s__law_wider : Stmt := top 48
abbrev N__law_wider : List Str := ["_law_box_here", "_law_more", "_law_low", "_law_high", "_law_one"]
theorem sc__law_wider : FnScope N__law_wider ["_law_box_here", "_law_more"] (defScope s__law_wider) := ⟨rfl, rfl, rfl, by decide +kernel, rfl, by decide +kernel, by decide +kernel⟩
abbrev s__law_pairs : Stmt := top 49
abbrev N__law_pairs : List Str := ["_law_letters", "_law_sizes_here", "_law_box_here", "_law_found", "_law_keys_here", "_law_key_here", "_law_later", "_law_step_here", "_law_rest", "_law_numbers"]
theorem sc__law_pairs : FnScope N__law_pairs ["_law_letters", "_law_sizes_here", "_law_box_here"] (defScope s__law_pairs) := ⟨rfl, rfl, rfl, by decide +kernel, rfl, by decide +kernel, by decide +kernel⟩
abbrev s__law_right : Stmt := top 50
abbrev N__law_right : List Str := ["_law_bowl_here", "_law_sizes_here", "_law_letters", "_law_box_here", "_law_due", "_law_weave_here", "_law_again", "_law_told", "_law_cells_here", "_law_wide_here", "_law_more", "_law_long", "_law_fine", "_law_pairs_here"]
theorem sc__law_right : FnScope N__law_right ["_law_bowl_here", "_law_sizes_here"] (defScope s__law_right) := ⟨rfl, rfl, rfl, by decide +kernel, rfl, by decide +kernel, by decide +kernel⟩
abbrev s__law_step : Stmt := top 51
abbrev N__law_step : List Str := ["_law_box_here", "_law_sizes_here", "_law_told", "_law_axis", "_law_found", "_law_spot", "_law_low", "_law_high", "_law_size", "_law_half"]
theorem sc__law_step : FnScope N__law_step ["_law_box_here", "_law_sizes_here", "_law_told", "_law_axis"] (defScope s__law_step) := ⟨rfl, rfl, rfl, by decide +kernel, rfl, by decide +kernel, by decide +kernel⟩
abbrev s__law_great_right : Stmt := top 52
abbrev N__law_great_right : List Str := ["_law_bowl_here", "_law_some", "_law_sizes_here", "_law_letters", "_law_box_here", "_law_told", "_law_due", "_law_cells_here", "_law_letter", "_law_axis", "_law_low", "_law_high"]
theorem sc__law_great_right : FnScope N__law_great_right ["_law_bowl_here"] (defScope s__law_great_right) := ⟨rfl, rfl, rfl, by decide +kernel, rfl, by decide +kernel, by decide +kernel⟩
abbrev s_law : Stmt := top 53
abbrev N_law : List Str := ["_law_script", "_law_k", "_law_bowl_here", "_law_turn", "_law_sizes_here"]
theorem sc_law : FnScope N_law ["_law_script"] (defScope s_law) := ⟨rfl, rfl, rfl, by decide +kernel, rfl, by decide +kernel, by decide +kernel⟩
/-- what the top has written -/
structure Txt (K : PySem.W.Frag) (mg : Str → Option Value) : Prop where
  n_all : mg "all" = none
  n_bool : mg "bool" = none
  n_enumerate : mg "enumerate" = none
  n_int : mg "int" = none
  n_isinstance : mg "isinstance" = none
  n_len : mg "len" = none
  n_list : mg "list" = none
  n_max : mg "max" = none
  n_min : mg "min" = none
  n_range : mg "range" = none
  n_repr : mg "repr" = none
  n_sorted : mg "sorted" = none
  n_str : mg "str" = none
  n_sum : mg "sum" = none
  n_tuple : mg "tuple" = none
  n_zip : mg "zip" = none
  c_AXES : ∃ t, mg "AXES" = some (.str "abcd" t)
  c_MOST_BITS : ∃ t, mg "MOST_BITS" = some (.int 120 t)
  c_MOST_LETTERS : ∃ t, mg "MOST_LETTERS" = some (.int 240 t)
  c_DIGITS : ∃ t, mg "DIGITS" = some (.str "0123456789" t)
  c_MOST_OPEN : ∃ t, mg "MOST_OPEN" = some (.int 8 t)
  c_MOST_TIMES : ∃ t, mg "MOST_TIMES" = some (.int 240 t)
  g_Weave : mg "Weave" = some (.ref (He.ga K "Weave"))
  k_Weave : Cls K (He.ga K "Weave")
  m_Weave : Mk K (He.ga K "Weave") (He.ma K (He.ga K "Weave") "__init__")
  i_Weave : IsC K (He.ga K "Weave")
  a_Weave_own_letters : NoAttr K (He.ga K "Weave") "own_letters"
  a_Weave_own_shape : NoAttr K (He.ga K "Weave") "own_shape"
  f_blocks_in : ∃ fd, FunD K "blocks_in" "blocks_in" (defArgs s_blocks_in) (defBody s_blocks_in) (defScope s_blocks_in) [] [] (He.ga K "blocks_in") fd
  g_blocks_in : mg "blocks_in" = some (.ref (He.ga K "blocks_in"))
  f_middles_in : ∃ fd, FunD K "middles_in" "middles_in" (defArgs s_middles_in) (defBody s_middles_in) (defScope s_middles_in) [] [] (He.ga K "middles_in") fd
  g_middles_in : mg "middles_in" = some (.ref (He.ga K "middles_in"))
  f_is_int : ∃ fd, FunD K "is_int" "is_int" (defArgs s_is_int) (defBody s_is_int) (defScope s_is_int) [] [] (He.ga K "is_int") fd
  g_is_int : mg "is_int" = some (.ref (He.ga K "is_int"))
  f_is_stretch : ∃ fd, FunD K "is_stretch" "is_stretch" (defArgs s_is_stretch) (defBody s_is_stretch) (defScope s_is_stretch) [] [] (He.ga K "is_stretch") fd
  g_is_stretch : mg "is_stretch" = some (.ref (He.ga K "is_stretch"))
  f_is_box_of : ∃ fd, FunD K "is_box_of" "is_box_of" (defArgs s_is_box_of) (defBody s_is_box_of) (defScope s_is_box_of) [] [] (He.ga K "is_box_of") fd
  g_is_box_of : mg "is_box_of" = some (.ref (He.ga K "is_box_of"))
  f_require_box : ∃ fd, FunD K "require_box" "require_box" (defArgs s_require_box) (defBody s_require_box) (defScope s_require_box) [] [] (He.ga K "require_box") fd
  g_require_box : mg "require_box" = some (.ref (He.ga K "require_box"))
  f_read_times : ∃ fd, FunD K "read_times" "read_times" (defArgs s_read_times) (defBody s_read_times) (defScope s_read_times) [] [] (He.ga K "read_times") fd
  g_read_times : mg "read_times" = some (.ref (He.ga K "read_times"))
  f_read_parts : ∃ fd, FunD K "read_parts" "read_parts" (defArgs s_read_parts) (defBody s_read_parts) (defScope s_read_parts) [] [] (He.ga K "read_parts") fd
  g_read_parts : mg "read_parts" = some (.ref (He.ga K "read_parts"))
  f_count_letter : ∃ fd, FunD K "count_letter" "count_letter" (defArgs s_count_letter) (defBody s_count_letter) (defScope s_count_letter) [] [] (He.ga K "count_letter") fd
  g_count_letter : mg "count_letter" = some (.ref (He.ga K "count_letter"))
  f_written : ∃ fd, FunD K "written" "written" (defArgs s_written) (defBody s_written) (defScope s_written) [] [] (He.ga K "written") fd
  g_written : mg "written" = some (.ref (He.ga K "written"))
  f_read_weave : ∃ fd, FunD K "read_weave" "read_weave" (defArgs s_read_weave) (defBody s_read_weave) (defScope s_read_weave) [] [] (He.ga K "read_weave") fd
  g_read_weave : mg "read_weave" = some (.ref (He.ga K "read_weave"))
  f_Weave___init__ : ∃ fd, FunD K "__init__" "Weave.__init__" (defArgs s_Weave___init__) (defBody s_Weave___init__) (defScope s_Weave___init__) [] [] (He.ma K (He.ga K "Weave") "__init__") fd
  f_Weave_letters : ∃ fd, FunD K "letters" "Weave.letters" (defArgs s_Weave_letters) (defBody s_Weave_letters) (defScope s_Weave_letters) [] [] (gpa K (He.ga K "Weave") "letters") fd
  p_Weave_letters : PropOf K (He.ga K "Weave") "letters" (He.ma K (He.ga K "Weave") "letters") (gpa K (He.ga K "Weave") "letters")
  f_Weave_shape : ∃ fd, FunD K "shape" "Weave.shape" (defArgs s_Weave_shape) (defBody s_Weave_shape) (defScope s_Weave_shape) [] [] (gpa K (He.ga K "Weave") "shape") fd
  p_Weave_shape : PropOf K (He.ga K "Weave") "shape" (He.ma K (He.ga K "Weave") "shape") (gpa K (He.ga K "Weave") "shape")
  f_require_weave : ∃ fd, FunD K "require_weave" "require_weave" (defArgs s_require_weave) (defBody s_require_weave) (defScope s_require_weave) [] [] (He.ga K "require_weave") fd
  g_require_weave : mg "require_weave" = some (.ref (He.ga K "require_weave"))
  f_axes_of : ∃ fd, FunD K "axes_of" "axes_of" (defArgs s_axes_of) (defBody s_axes_of) (defScope s_axes_of) [] [] (He.ga K "axes_of") fd
  g_axes_of : mg "axes_of" = some (.ref (He.ga K "axes_of"))
  f_pairs_at : ∃ fd, FunD K "pairs_at" "pairs_at" (defArgs s_pairs_at) (defBody s_pairs_at) (defScope s_pairs_at) [] [] (He.ga K "pairs_at") fd
  g_pairs_at : mg "pairs_at" = some (.ref (He.ga K "pairs_at"))
  f_pairs_of : ∃ fd, FunD K "pairs_of" "pairs_of" (defArgs s_pairs_of) (defBody s_pairs_of) (defScope s_pairs_of) [] [] (He.ga K "pairs_of") fd
  g_pairs_of : mg "pairs_of" = some (.ref (He.ga K "pairs_of"))
  f_cells_of : ∃ fd, FunD K "cells_of" "cells_of" (defArgs s_cells_of) (defBody s_cells_of) (defScope s_cells_of) [] [] (He.ga K "cells_of") fd
  g_cells_of : mg "cells_of" = some (.ref (He.ga K "cells_of"))
  f_number_of_ranges : ∃ fd, FunD K "number_of_ranges" "number_of_ranges" (defArgs s_number_of_ranges) (defBody s_number_of_ranges) (defScope s_number_of_ranges) [] [] (He.ga K "number_of_ranges") fd
  g_number_of_ranges : mg "number_of_ranges" = some (.ref (He.ga K "number_of_ranges"))
  f_count_ranges : ∃ fd, FunD K "count_ranges" "count_ranges" (defArgs s_count_ranges) (defBody s_count_ranges) (defScope s_count_ranges) [] [] (He.ga K "count_ranges") fd
  g_count_ranges : mg "count_ranges" = some (.ref (He.ga K "count_ranges"))
  f_step_pairs : ∃ fd, FunD K "step_pairs" "step_pairs" (defArgs s_step_pairs) (defBody s_step_pairs) (defScope s_step_pairs) [] [] (He.ga K "step_pairs") fd
  g_step_pairs : mg "step_pairs" = some (.ref (He.ga K "step_pairs"))
  f__law_bowl : ∃ fd, FunD K "_law_bowl" "_law_bowl" (defArgs s__law_bowl) (defBody s__law_bowl) (defScope s__law_bowl) [] [] (He.ga K "_law_bowl") fd
  g__law_bowl : mg "_law_bowl" = some (.ref (He.ga K "_law_bowl"))
  f__law_pick : ∃ fd, FunD K "_law_pick" "_law_pick" (defArgs s__law_pick) (defBody s__law_pick) (defScope s__law_pick) [] [] (He.ga K "_law_pick") fd
  g__law_pick : mg "_law_pick" = some (.ref (He.ga K "_law_pick"))
  f__law_word : ∃ fd, FunD K "_law_word" "_law_word" (defArgs s__law_word) (defBody s__law_word) (defScope s__law_word) [] [] (He.ga K "_law_word") fd
  g__law_word : mg "_law_word" = some (.ref (He.ga K "_law_word"))
  f__law_key : ∃ fd, FunD K "_law_key" "_law_key" (defArgs s__law_key) (defBody s__law_key) (defScope s__law_key) [] [] (He.ga K "_law_key") fd
  g__law_key : mg "_law_key" = some (.ref (He.ga K "_law_key"))
  f__law_cells : ∃ fd, FunD K "_law_cells" "_law_cells" (defArgs s__law_cells) (defBody s__law_cells) (defScope s__law_cells) [] [] (He.ga K "_law_cells") fd
  g__law_cells : mg "_law_cells" = some (.ref (He.ga K "_law_cells"))
  f__law_sizes : ∃ fd, FunD K "_law_sizes" "_law_sizes" (defArgs s__law_sizes) (defBody s__law_sizes) (defScope s__law_sizes) [] [] (He.ga K "_law_sizes") fd
  g__law_sizes : mg "_law_sizes" = some (.ref (He.ga K "_law_sizes"))
  f__law_stretch : ∃ fd, FunD K "_law_stretch" "_law_stretch" (defArgs s__law_stretch) (defBody s__law_stretch) (defScope s__law_stretch) [] [] (He.ga K "_law_stretch") fd
  g__law_stretch : mg "_law_stretch" = some (.ref (He.ga K "_law_stretch"))
  f__law_box : ∃ fd, FunD K "_law_box" "_law_box" (defArgs s__law_box) (defBody s__law_box) (defScope s__law_box) [] [] (He.ga K "_law_box") fd
  g__law_box : mg "_law_box" = some (.ref (He.ga K "_law_box"))
  f__law_wide : ∃ fd, FunD K "_law_wide" "_law_wide" (defArgs s__law_wide) (defBody s__law_wide) (defScope s__law_wide) [] [] (He.ga K "_law_wide") fd
  g__law_wide : mg "_law_wide" = some (.ref (He.ga K "_law_wide"))
  f__law_wider : ∃ fd, FunD K "_law_wider" "_law_wider" (defArgs s__law_wider) (defBody s__law_wider) (defScope s__law_wider) [] [] (He.ga K "_law_wider") fd
  g__law_wider : mg "_law_wider" = some (.ref (He.ga K "_law_wider"))
  f__law_pairs : ∃ fd, FunD K "_law_pairs" "_law_pairs" (defArgs s__law_pairs) (defBody s__law_pairs) (defScope s__law_pairs) [] [] (He.ga K "_law_pairs") fd
  g__law_pairs : mg "_law_pairs" = some (.ref (He.ga K "_law_pairs"))
  f__law_right : ∃ fd, FunD K "_law_right" "_law_right" (defArgs s__law_right) (defBody s__law_right) (defScope s__law_right) [] [] (He.ga K "_law_right") fd
  g__law_right : mg "_law_right" = some (.ref (He.ga K "_law_right"))
  f__law_step : ∃ fd, FunD K "_law_step" "_law_step" (defArgs s__law_step) (defBody s__law_step) (defScope s__law_step) [] [] (He.ga K "_law_step") fd
  g__law_step : mg "_law_step" = some (.ref (He.ga K "_law_step"))
  f__law_great_right : ∃ fd, FunD K "_law_great_right" "_law_great_right" (defArgs s__law_great_right) (defBody s__law_great_right) (defScope s__law_great_right) [] [] (He.ga K "_law_great_right") fd
  g__law_great_right : mg "_law_great_right" = some (.ref (He.ga K "_law_great_right"))
  f_law : ∃ fd, FunD K "law" "law" (defArgs s_law) (defBody s_law) (defScope s_law) [] [] (He.ga K "law") fd
  g_law : mg "law" = some (.ref (He.ga K "law"))
/-! ## the end -/
def fnl : List DefA := [⟨fun K => He.ga K "blocks_in", ⟨("blocks_in", none), "blocks_in", "blocks_in", defArgs s_blocks_in, defBody s_blocks_in, defScope s_blocks_in, [], []⟩⟩, ⟨fun K => He.ga K "middles_in", ⟨("middles_in", none), "middles_in", "middles_in", defArgs s_middles_in, defBody s_middles_in, defScope s_middles_in, [], []⟩⟩, ⟨fun K => He.ga K "is_int", ⟨("is_int", none), "is_int", "is_int", defArgs s_is_int, defBody s_is_int, defScope s_is_int, [], []⟩⟩, ⟨fun K => He.ga K "is_stretch", ⟨("is_stretch", none), "is_stretch", "is_stretch", defArgs s_is_stretch, defBody s_is_stretch, defScope s_is_stretch, [], []⟩⟩, ⟨fun K => He.ga K "is_box_of", ⟨("is_box_of", none), "is_box_of", "is_box_of", defArgs s_is_box_of, defBody s_is_box_of, defScope s_is_box_of, [], []⟩⟩, ⟨fun K => He.ga K "require_box", ⟨("require_box", none), "require_box", "require_box", defArgs s_require_box, defBody s_require_box, defScope s_require_box, [], []⟩⟩, ⟨fun K => He.ga K "read_times", ⟨("read_times", none), "read_times", "read_times", defArgs s_read_times, defBody s_read_times, defScope s_read_times, [], []⟩⟩, ⟨fun K => He.ga K "read_parts", ⟨("read_parts", none), "read_parts", "read_parts", defArgs s_read_parts, defBody s_read_parts, defScope s_read_parts, [], []⟩⟩, ⟨fun K => He.ga K "count_letter", ⟨("count_letter", none), "count_letter", "count_letter", defArgs s_count_letter, defBody s_count_letter, defScope s_count_letter, [], []⟩⟩, ⟨fun K => He.ga K "written", ⟨("written", none), "written", "written", defArgs s_written, defBody s_written, defScope s_written, [], []⟩⟩, ⟨fun K => He.ga K "read_weave", ⟨("read_weave", none), "read_weave", "read_weave", defArgs s_read_weave, defBody s_read_weave, defScope s_read_weave, [], []⟩⟩, ⟨fun K => He.ma K (He.ga K "Weave") "__init__", ⟨("Weave.__init__", none), "__init__", "Weave.__init__", defArgs s_Weave___init__, defBody s_Weave___init__, defScope s_Weave___init__, [], []⟩⟩, ⟨fun K => gpa K (He.ga K "Weave") "letters", ⟨("Weave.letters", none), "letters", "Weave.letters", defArgs s_Weave_letters, defBody s_Weave_letters, defScope s_Weave_letters, [], []⟩⟩, ⟨fun K => gpa K (He.ga K "Weave") "shape", ⟨("Weave.shape", none), "shape", "Weave.shape", defArgs s_Weave_shape, defBody s_Weave_shape, defScope s_Weave_shape, [], []⟩⟩, ⟨fun K => He.ga K "require_weave", ⟨("require_weave", none), "require_weave", "require_weave", defArgs s_require_weave, defBody s_require_weave, defScope s_require_weave, [], []⟩⟩, ⟨fun K => He.ga K "axes_of", ⟨("axes_of", none), "axes_of", "axes_of", defArgs s_axes_of, defBody s_axes_of, defScope s_axes_of, [], []⟩⟩, ⟨fun K => He.ga K "pairs_at", ⟨("pairs_at", none), "pairs_at", "pairs_at", defArgs s_pairs_at, defBody s_pairs_at, defScope s_pairs_at, [], []⟩⟩, ⟨fun K => He.ga K "pairs_of", ⟨("pairs_of", none), "pairs_of", "pairs_of", defArgs s_pairs_of, defBody s_pairs_of, defScope s_pairs_of, [], []⟩⟩, ⟨fun K => He.ga K "cells_of", ⟨("cells_of", none), "cells_of", "cells_of", defArgs s_cells_of, defBody s_cells_of, defScope s_cells_of, [], []⟩⟩, ⟨fun K => He.ga K "number_of_ranges", ⟨("number_of_ranges", none), "number_of_ranges", "number_of_ranges", defArgs s_number_of_ranges, defBody s_number_of_ranges, defScope s_number_of_ranges, [], []⟩⟩, ⟨fun K => He.ga K "count_ranges", ⟨("count_ranges", none), "count_ranges", "count_ranges", defArgs s_count_ranges, defBody s_count_ranges, defScope s_count_ranges, [], []⟩⟩, ⟨fun K => He.ga K "step_pairs", ⟨("step_pairs", none), "step_pairs", "step_pairs", defArgs s_step_pairs, defBody s_step_pairs, defScope s_step_pairs, [], []⟩⟩, ⟨fun K => He.ga K "_law_bowl", ⟨("_law_bowl", none), "_law_bowl", "_law_bowl", defArgs s__law_bowl, defBody s__law_bowl, defScope s__law_bowl, [], []⟩⟩, ⟨fun K => He.ga K "_law_pick", ⟨("_law_pick", none), "_law_pick", "_law_pick", defArgs s__law_pick, defBody s__law_pick, defScope s__law_pick, [], []⟩⟩, ⟨fun K => He.ga K "_law_word", ⟨("_law_word", none), "_law_word", "_law_word", defArgs s__law_word, defBody s__law_word, defScope s__law_word, [], []⟩⟩, ⟨fun K => He.ga K "_law_key", ⟨("_law_key", none), "_law_key", "_law_key", defArgs s__law_key, defBody s__law_key, defScope s__law_key, [], []⟩⟩, ⟨fun K => He.ga K "_law_cells", ⟨("_law_cells", none), "_law_cells", "_law_cells", defArgs s__law_cells, defBody s__law_cells, defScope s__law_cells, [], []⟩⟩, ⟨fun K => He.ga K "_law_sizes", ⟨("_law_sizes", none), "_law_sizes", "_law_sizes", defArgs s__law_sizes, defBody s__law_sizes, defScope s__law_sizes, [], []⟩⟩, ⟨fun K => He.ga K "_law_stretch", ⟨("_law_stretch", none), "_law_stretch", "_law_stretch", defArgs s__law_stretch, defBody s__law_stretch, defScope s__law_stretch, [], []⟩⟩, ⟨fun K => He.ga K "_law_box", ⟨("_law_box", none), "_law_box", "_law_box", defArgs s__law_box, defBody s__law_box, defScope s__law_box, [], []⟩⟩, ⟨fun K => He.ga K "_law_wide", ⟨("_law_wide", none), "_law_wide", "_law_wide", defArgs s__law_wide, defBody s__law_wide, defScope s__law_wide, [], []⟩⟩, ⟨fun K => He.ga K "_law_wider", ⟨("_law_wider", none), "_law_wider", "_law_wider", defArgs s__law_wider, defBody s__law_wider, defScope s__law_wider, [], []⟩⟩, ⟨fun K => He.ga K "_law_pairs", ⟨("_law_pairs", none), "_law_pairs", "_law_pairs", defArgs s__law_pairs, defBody s__law_pairs, defScope s__law_pairs, [], []⟩⟩, ⟨fun K => He.ga K "_law_right", ⟨("_law_right", none), "_law_right", "_law_right", defArgs s__law_right, defBody s__law_right, defScope s__law_right, [], []⟩⟩, ⟨fun K => He.ga K "_law_step", ⟨("_law_step", none), "_law_step", "_law_step", defArgs s__law_step, defBody s__law_step, defScope s__law_step, [], []⟩⟩, ⟨fun K => He.ga K "_law_great_right", ⟨("_law_great_right", none), "_law_great_right", "_law_great_right", defArgs s__law_great_right, defBody s__law_great_right, defScope s__law_great_right, [], []⟩⟩, ⟨fun K => He.ga K "law", ⟨("law", none), "law", "law", defArgs s_law, defBody s_law, defScope s_law, [], []⟩⟩]
def fal : List He.Fa := [.free "all", .free "bool", .free "enumerate", .free "int", .free "isinstance", .free "len", .free "list", .free "max", .free "min", .free "range", .free "repr", .free "sorted", .free "str", .free "sum", .free "tuple", .free "zip", .str "AXES" "abcd", .int "MOST_BITS" 120, .int "MOST_LETTERS" 240, .str "DIGITS" "0123456789", .int "MOST_OPEN" 8, .int "MOST_TIMES" 240, .glo "Weave", .cls "Weave", .mkr "Weave", .noat "Weave" "own_letters", .noat "Weave" "own_shape", .glo "blocks_in", .glo "middles_in", .glo "is_int", .glo "is_stretch", .glo "is_box_of", .glo "require_box", .glo "read_times", .glo "read_parts", .glo "count_letter", .glo "written", .glo "read_weave", .glo "require_weave", .glo "axes_of", .glo "pairs_at", .glo "pairs_of", .glo "cells_of", .glo "number_of_ranges", .glo "count_ranges", .glo "step_pairs", .glo "_law_bowl", .glo "_law_pick", .glo "_law_word", .glo "_law_key", .glo "_law_cells", .glo "_law_sizes", .glo "_law_stretch", .glo "_law_box", .glo "_law_wide", .glo "_law_wider", .glo "_law_pairs", .glo "_law_right", .glo "_law_step", .glo "_law_great_right", .glo "law"]
def exl : List (PySem.W.Frag → Bool) := [isB "Weave", propB "Weave" "letters", propB "Weave" "shape"]
abbrev Rw : PySem.W.OpenRow := PySem.W.OpenLaw.row PySem.Challenge.rw_wovenkeys_k15_pairs_at_each_step
abbrev hk : PySem.W.Hook := hookA 7 fal exl fnl
def ob (s : PySem.W.SharedT) : He.AlD := obsAG 7 fal exl fnl (HandSHeadRun.getT s)
theorem ob_eq (s : PySem.W.SharedT) : ob s = hk.obs s.abs := obsAG_eq (HandSHeadRun.getT_eq s)
def nm0 : List Str := ["blocks_in", "middles_in", "WeaveError", "InvalidText", "TooLarge", "InvalidWeave", "InvalidBox", "AXES", "MOST_BITS", "MOST_LETTERS", "is_int", "is_stretch", "is_box_of", "require_box", "DIGITS", "MOST_OPEN", "MOST_TIMES", "read_times", "read_parts", "count_letter", "written", "read_weave", "run_text", "Weave", "require_weave", "axes_of", "pairs_at", "pairs_of", "cells_of", "number_of_ranges"]
def nm1 : List Str := ["count_ranges", "step_pairs", "_law_bowl", "_law_pick", "_law_word", "_law_key", "_law_cells", "_law_runs", "_law_sizes", "_law_stretch", "_law_box", "_law_wide", "_law_wider", "_law_pairs", "_law_right", "_law_step", "_law_great_right"]
def nms : List Str := nm0 ++ nm1
theorem run (w : World) : HandSHeadRun.RunEq Rw (PySem.W.view Rw.prog [53]) hk ob 6000 nms w := by
  intro os
  kernel_rfl
end K15
/-! ## the pure layer, part 1: data without a heap, and what holds between both -/
namespace WP
open PySem PySem.Spec PyProof.Rows L2 WK
/-- a value with all that it reaches: lists stand for what they hold. brk: the list that draws are made from -/
inductive D where
  | non | bl (b : Bool) | int (i : Int) | str (x : Str) | tup (xs : List D) | lst (xs : List D) | slst (ns : List Int) | ins (C : Str) (ks : List Str) (vs : List D) | brk | dic (ks vs : List D)
/-- what the draws have used -/
structure Om where
  n : Nat
def Om.add (c : Om) (k : Nat) : Om := ⟨c.n + k⟩
theorem Om.add_n (c : Om) (k : Nat) : (c.add k).n = c.n + k := rfl
def kD : Key → D
  | .inl i => .int i
  | .inr x => .str x
mutual
inductive Rep (K : PySem.W.Frag) (S : Addr → Prop) (H : Hp) : V → D → Prop
  | non : Rep K S H .non .non
  | bl (b : Bool) : Rep K S H (.bl b) (.bl b)
  | int (i : Int) : Rep K S H (.int i) (.int i)
  | str (x : Str) : Rep K S H (.str x) (.str x)
  | tup {a : Addr} {xs : List V} {ds : List D} : H a = some (.tup xs) → Reps K S H xs ds → Rep K S H (.ref a) (.tup ds)
  | lst {a : Addr} {xs : List V} {ds : List D} : H a = some (.lst xs) → Reps K S H xs ds → Rep K S H (.ref a) (.lst ds)
  | slst {a : Addr} {ns : List Int} : SqL K H a (ns.map V.int) → Rep K S H (.ref a) (.slst ns)
  | ins {a dx : Addr} {C : Str} {fs : List (Str × V)} {ks : List Str} {ds : List D} : H a = some (.ins (He.ga K C) dx fs) → fs.map (·.1) = ks → Reps K S H (fs.map (·.2)) ds → Rep K S H (.ref a) (.ins C ks ds)
  | brk {a : Addr} : S a → Rep K S H (.ref a) .brk
  | dic {a : Addr} {kvs : List (Key × V)} {ks ds : List D} : H a = some (.dK kvs) → kvs.map (fun p => kD p.1) = ks → Reps K S H (kvs.map (·.2)) ds → Rep K S H (.ref a) (.dic ks ds)
inductive Reps (K : PySem.W.Frag) (S : Addr → Prop) (H : Hp) : List V → List D → Prop
  | nil : Reps K S H [] []
  | cons {x : V} {d : D} {xs : List V} {ds : List D} : Rep K S H x d → Reps K S H xs ds → Reps K S H (x :: xs) (d :: ds)
end
section
variable {K : PySem.W.Frag} {S S' : Addr → Prop} {H H' : Hp}
mutual
theorem Rep.mono (hs : Same H H') (hS : ∀ a, S a → S' a) : ∀ {v : V} {d : D}, Rep K S H v d → Rep K S' H' v d
  | _, _, .non => .non
  | _, _, .bl b => .bl b
  | _, _, .int i => .int i
  | _, _, .str x => .str x
  | _, _, .tup h r => .tup (hs _ _ h) (Reps.mono hs hS r)
  | _, _, .lst h r => .lst (hs _ _ h) (Reps.mono hs hS r)
  | _, _, .slst h => .slst (by
    rcases h with (h | ⟨o, h⟩) | h
    · exact .inl (.inl (hs _ _ h))
    · exact .inl (.inr ⟨o, hs _ _ h⟩)
    · exact .inr h)
  | _, _, .ins h e r => .ins (hs _ _ h) e (Reps.mono hs hS r)
  | _, _, .brk h => .brk (hS _ h)
  | _, _, .dic h e r => .dic (hs _ _ h) e (Reps.mono hs hS r)
theorem Reps.mono (hs : Same H H') (hS : ∀ a, S a → S' a) : ∀ {vs : List V} {ds : List D}, Reps K S H vs ds → Reps K S' H' vs ds
  | _, _, .nil => .nil
  | _, _, .cons h r => .cons (Rep.mono hs hS h) (Reps.mono hs hS r)
end
theorem Reps.len : ∀ {vs : List V} {ds : List D}, Reps K S H vs ds → vs.length = ds.length
  | _, _, .nil => rfl
  | _, _, .cons _ r => by rw [List.length_cons, List.length_cons, r.len]
theorem Reps.app : ∀ {vs us : List V} {ds es : List D}, Reps K S H vs ds → Reps K S H us es → Reps K S H (vs ++ us) (ds ++ es)
  | _, _, _, _, .nil, s => s
  | _, _, _, _, .cons h r, s => .cons h (r.app s)
theorem Reps.get : ∀ {vs : List V} {ds : List D} {i : Nat} {v : V}, Reps K S H vs ds → vs[i]? = some v → ∃ d, ds[i]? = some d ∧ Rep K S H v d
  | _, _, 0, _, .cons h _, e => ⟨_, rfl, by cases e; exact h⟩
  | _, _, i + 1, _, .cons _ r, e => r.get (i := i) e
theorem Reps.getD : ∀ {vs : List V} {ds : List D} {i : Nat} {d : D}, Reps K S H vs ds → ds[i]? = some d → ∃ v, vs[i]? = some v ∧ Rep K S H v d
  | _, _, 0, _, .cons h _, e => ⟨_, rfl, by cases e; exact h⟩
  | _, _, i + 1, _, .cons _ r, e => r.getD (i := i) e
theorem Reps.set : ∀ {vs : List V} {ds : List D} {v : V} {d : D} (i : Nat), Reps K S H vs ds → Rep K S H v d → Reps K S H (vs.set i v) (ds.set i d)
  | _, _, _, _, _, .nil, _ => .nil
  | _, _, _, _, 0, .cons _ r, s => .cons s r
  | _, _, _, _, i + 1, .cons h r, s => .cons h (r.set i s)
theorem Reps.drop : ∀ {vs : List V} {ds : List D} (i : Nat), Reps K S H vs ds → Reps K S H (vs.drop i) (ds.drop i)
  | _, _, 0, r => r
  | _, _, _ + 1, .nil => .nil
  | _, _, i + 1, .cons _ r => r.drop i
theorem Reps.take : ∀ {vs : List V} {ds : List D} (i : Nat), Reps K S H vs ds → Reps K S H (vs.take i) (ds.take i)
  | _, _, 0, _ => .nil
  | _, _, _ + 1, .nil => .nil
  | _, _, i + 1, .cons h r => .cons h (r.take i)
theorem Reps.rev {vs : List V} {ds : List D} (h : Reps K S H vs ds) : Reps K S H vs.reverse ds.reverse := by
  induction vs generalizing ds with
  | nil => cases h; exact .nil
  | cons v vs ih =>
    cases h with
    | cons a b =>
      rw [List.reverse_cons, List.reverse_cons]
      exact (ih b).app (.cons a .nil)
theorem Reps.eraseIdx : ∀ {vs : List V} {ds : List D} (i : Nat), Reps K S H vs ds → Reps K S H (vs.eraseIdx i) (ds.eraseIdx i)
  | _, _, _, .nil => .nil
  | _, _, 0, .cons _ r => r
  | _, _, i + 1, .cons h r => .cons h (r.eraseIdx i)
theorem Reps.dropLast {vs : List V} {ds : List D} (h : Reps K S H vs ds) : Reps K S H vs.dropLast ds.dropLast := by
  rw [List.dropLast_eq_take, List.dropLast_eq_take, h.len]
  exact h.take _
theorem Reps.flat {vs : List V} {ds : List D} (h : Reps K S H vs ds) : ∀ n : Nat, Reps K S H (List.replicate n vs).flatten (List.replicate n ds).flatten
  | 0 => .nil
  | n + 1 => by
    rw [List.replicate_succ, List.replicate_succ, List.flatten_cons, List.flatten_cons]
    exact h.app (h.flat n)
theorem Reps.ints : ∀ {ns : List Int} {vs : List V}, Reps K S H vs (ns.map D.int) → vs = ns.map V.int
  | [], _, .nil => rfl
  | n :: ns, _, .cons h r => by
    cases h
    rw [List.map_cons, r.ints]
theorem Reps.of_ints : ∀ ns : List Int, Reps K S H (ns.map V.int) (ns.map D.int)
  | [] => .nil
  | n :: ns => .cons (.int n) (Reps.of_ints ns)
theorem Reps.strs : ∀ {ns : List Str} {vs : List V}, Reps K S H vs (ns.map D.str) → vs = ns.map V.str
  | [], _, .nil => rfl
  | n :: ns, _, .cons h r => by
    cases h
    rw [List.map_cons, r.strs]
theorem Reps.of_strs : ∀ ns : List Str, Reps K S H (ns.map V.str) (ns.map D.str)
  | [] => .nil
  | n :: ns => .cons (.str n) (Reps.of_strs ns)
theorem Reps.bls : ∀ {ns : List Bool} {vs : List V}, Reps K S H vs (ns.map D.bl) → vs = ns.map V.bl
  | [], _, .nil => rfl
  | n :: ns, _, .cons h r => by
    cases h
    rw [List.map_cons, r.bls]
end
/-- the heap without what is hidden -/
noncomputable def cut (Z : Addr → Prop) (H : Hp) : Hp := fun a => open Classical in if Z a then none else H a
theorem cut_hid {Z : Addr → Prop} {H : Hp} {a : Addr} (h : Z a) : cut Z H a = none := by
  unfold cut
  rw [if_pos h]
theorem cut_at {Z : Addr → Prop} {H : Hp} {a : Addr} (h : ¬ Z a) : cut Z H a = H a := by
  unfold cut
  rw [if_neg h]
theorem cut_some {Z : Addr → Prop} {H : Hp} {a : Addr} {o : HO} (h : cut Z H a = some o) : ¬ Z a ∧ H a = some o := by
  by_cases z : Z a
  · rw [cut_hid z] at h
    cases h
  · rw [cut_at z] at h
    exact ⟨z, h⟩
theorem cut_same {Z : Addr → Prop} {H : Hp} : Same (cut Z H) H := fun _ _ h => (cut_some h).2
theorem cut_upd {Z : Addr → Prop} {H : Hp} {a : Addr} {o : HO} (h : Z a) : cut Z (upd H a o) = cut Z H := by
  funext b
  by_cases z : Z b
  · rw [cut_hid z, cut_hid z]
  · rw [cut_at z, cut_at z, upd_ne]
    intro e
    rw [e] at z
    exact z h
/-- Z: hidden (lists that somebody owns, and S); S: the lists that draws change -/
structure Wd where
  Z : Addr → Prop
  S : Addr → Prop
structure WOk (w : Wd) (c : Om) (H : Hp) : Prop where
  sz : ∀ a, w.S a → w.Z a
  al : ∀ a, w.Z a → ∃ o, H a = some o ∧ ∀ xs, o ≠ .tup xs
  br : ∀ a, w.S a → Br a c.n H
/-- what a call, an expression leaves: all but S -/
structure Le (w : Wd) (H : Hp) (w' : Wd) (H' : Hp) : Prop where
  s : ∀ a, w.S a → w'.S a
  z : ∀ a, w.Z a → w'.Z a
  s' : ∀ a, w'.S a → w.S a ∨ H a = none
  z' : ∀ a, w'.Z a → w.Z a ∨ H a = none
  ex : ∀ a o, ¬ w.S a → H a = some o → H' a = some o
/-- what a statement leaves: all that is not hidden -/
structure Ls (w : Wd) (H : Hp) (w' : Wd) (H' : Hp) : Prop where
  s : ∀ a, w.S a → w'.S a
  c : Same (cut w.Z H) (cut w'.Z H')
section
variable {K : PySem.W.Frag} {w w1 w' w2 w0 : Wd} {c c1 c' c2 : Om} {H H1 H' H2 H0 : Hp} {v : V} {d : D}
theorem Le.refl : Le w H w H := ⟨fun _ h => h, fun _ h => h, fun _ h => .inl h, fun _ h => .inl h, fun _ _ _ h => h⟩
theorem Le.back (x : Le w H w1 H1) {a : Addr} (h : H1 a = none) : w.S a ∨ H a = none := by
  by_cases s : w.S a
  · exact .inl s
  · refine .inr ?_
    cases e : H a with
    | none => rfl
    | some o =>
      rw [x.ex a o s e] at h
      cases h
theorem Le.trans (k : WOk w c H) (x : Le w H w1 H1) (y : Le w1 H1 w2 H2) : Le w H w2 H2 where
  s := fun a h => y.s a (x.s a h)
  z := fun a h => y.z a (x.z a h)
  s' := fun a h => by
    rcases y.s' a h with h | h
    · exact x.s' a h
    · exact x.back h
  z' := fun a h => by
    rcases y.z' a h with h | h
    · exact x.z' a h
    · rcases x.back h with h | h
      · exact .inl (k.sz a h)
      · exact .inr h
  ex := fun a o n h => by
    refine y.ex a o (fun s => ?_) (x.ex a o n h)
    rcases x.s' a s with z | z
    · exact n z
    · rw [h] at z
      cases z
theorem Le.ls (k : WOk w c H) (x : Le w H w' H') : Ls w H w' H' := ⟨x.s, fun a o h => by
  obtain ⟨n, h⟩ := cut_some h
  have e := x.ex a o (fun s => n (k.sz a s)) h
  rw [cut_at (fun z => ?_), e]
  rcases x.z' a z with z | z
  · exact n z
  · rw [h] at z
    cases z⟩
theorem Ls.refl : Ls w H w H := ⟨fun _ h => h, Same.refl _⟩
theorem Ls.trans (x : Ls w H w1 H1) (y : Ls w1 H1 w2 H2) : Ls w H w2 H2 := ⟨fun a h => y.s a (x.s a h), x.c.trans y.c⟩
abbrev RP (K : PySem.W.Frag) (w : Wd) (H : Hp) (v : V) (d : D) : Prop := Rep K w.S (cut w.Z H) v d
abbrev RPs (K : PySem.W.Frag) (w : Wd) (H : Hp) (v : List V) (d : List D) : Prop := Reps K w.S (cut w.Z H) v d
theorem Ls.rp (x : Ls w H w' H') (h : RP K w H v d) : RP K w' H' v d := Rep.mono x.c x.s h
theorem Ls.rps {vs : List V} {ds : List D} (x : Ls w H w' H') (h : RPs K w H vs ds) : RPs K w' H' vs ds := Reps.mono x.c x.s h
theorem WOk.nz (k : WOk w c H) {p : Addr} (np : H p = none) : ¬ w.Z p := fun z => by
  obtain ⟨o, h, _⟩ := k.al p z
  rw [np] at h
  cases h
theorem WOk.nt (k : WOk w c H) {p : Addr} {xs : List V} (hp : H p = some (.tup xs)) : ¬ w.Z p := fun z => by
  obtain ⟨o, h, n⟩ := k.al p z
  rw [hp] at h
  cases h
  exact n xs rfl
theorem WOk.new {p : Addr} {o : HO} (k : WOk w c H) (np : H p = none) : WOk w c (upd H p o) :=
  ⟨k.sz, fun a z => let ⟨u, h, n⟩ := k.al a z; ⟨u, upd_new np h, n⟩, fun a s => (k.br a s).new np⟩
theorem Le.new {p : Addr} {o : HO} (np : H p = none) : Le w H w (upd H p o) := ⟨fun _ h => h, fun _ h => h, fun _ h => .inl h, fun _ h => .inl h, fun _ _ _ h => upd_new np h⟩
/-- a new object that is hidden -/
def Wd.hide (w : Wd) (p : Addr) : Wd := ⟨fun a => w.Z a ∨ a = p, w.S⟩
def Wd.show (w : Wd) (p : Addr) : Wd := ⟨fun a => w.Z a ∧ a ≠ p, w.S⟩
theorem WOk.hid {p : Addr} {vs : List V} (k : WOk w c H) (np : H p = none) : WOk (w.hide p) c (upd H p (.lst vs)) where
  sz := fun a s => .inl (k.sz a s)
  al := fun a z => by
    rcases z with z | z
    · obtain ⟨u, h, n⟩ := k.al a z
      exact ⟨u, upd_new np h, n⟩
    · exact ⟨.lst vs, by rw [z]; exact upd_same, fun xs e => nomatch e⟩
  br := fun a s => (k.br a s).new np
theorem Le.hid {p : Addr} {o : HO} (np : H p = none) : Le w H (w.hide p) (upd H p o) :=
  ⟨fun _ h => h, fun _ h => .inl h, fun _ h => .inl h, fun _ h => h.imp id fun e => by rw [e]; exact np, fun _ _ _ h => upd_new np h⟩
theorem hide_show {p : Addr} : Same (cut w.Z H) (cut (w.show p).Z H) := fun a o h => by
  obtain ⟨n, h⟩ := cut_some h
  rw [cut_at (fun z => n z.1), h]
theorem WOk.shw {p : Addr} (k : WOk w c H) (np : ¬ w.S p) : WOk (w.show p) c H := ⟨fun a s => ⟨k.sz a s, fun e => np (by rw [← e]; exact s)⟩, fun a z => k.al a z.1, k.br⟩
/-- what was new is shown -/
theorem Le.shw {p : Addr} (x : Le w H w' H') (np : H p = none) (k : WOk w c H) : Le w H (w'.show p) H' :=
  ⟨x.s, fun a z => ⟨x.z a z, fun e => k.nz np (by rw [← e]; exact z)⟩, x.s', fun a z => x.z' a z.1, x.ex⟩
theorem WOk.put {p : Addr} {vs : List V} (k : WOk w c H) (ns : ¬ w.S p) : WOk w c (upd H p (.lst vs)) where
  sz := k.sz
  al := fun a z => by
    by_cases e : a = p
    · exact ⟨.lst vs, by rw [e]; exact upd_same, fun xs e => nomatch e⟩
    · obtain ⟨u, h, n⟩ := k.al a z
      exact ⟨u, by rw [upd_ne e]; exact h, n⟩
  br := fun a s => (k.br a s).at fun e => ns (by rw [e]; exact s)
/-- a hidden list that was new is written -/
theorem Le.put {p : Addr} {o : HO} (x : Le w0 H0 w H) (np : H0 p = none) : Le w0 H0 w (upd H p o) := ⟨x.s, x.z, x.s', x.z', fun a u n h => by
  rw [upd_ne (ne_of_none h np)]
  exact x.ex a u n h⟩
theorem Ls.put {p : Addr} {o : HO} (z : w.Z p) : Ls w H w (upd H p o) := ⟨fun _ h => h, by rw [cut_upd z]; exact Same.refl _⟩
end
/-! ### what a name may hold -/
inductive Sl where
  | val (d : D) | own (xs : List D) | obj (a : Addr) (C : Str) (ks : List Str) (vs : List D)
def Sl.d : Sl → D
  | .val d => d
  | .own xs => .lst xs
  | .obj _ C ks vs => .ins C ks vs
def Sl.isOwn : Sl → Bool
  | .val _ => false
  | .own _ => true
  | .obj _ _ _ _ => true
/-- an object that is being made -/
def Sl.isObj : Sl → Bool
  | .obj _ _ _ _ => true
  | _ => false
/-- owned: the list is known to this name alone -/
def Owns (K : PySem.W.Frag) (w : Wd) (H : Hp) (v : V) (xs : List D) : Prop := ∃ a vs, v = .ref a ∧ w.Z a ∧ ¬ w.S a ∧ H a = some (.lst vs) ∧ RPs K w H vs xs
def OwnsO (K : PySem.W.Frag) (w : Wd) (H : Hp) (v : V) (a : Addr) (C : Str) (ks : List Str) (ds : List D) : Prop := ∃ dx fs, v = .ref a ∧ w.Z a ∧ ¬ w.S a ∧ H a = some (.ins (He.ga K C) dx fs) ∧ fs.map (·.1) = ks ∧ RPs K w H (fs.map (·.2)) ds
def RSl (K : PySem.W.Frag) (w : Wd) (H : Hp) (v : V) : Sl → Prop
  | .val d => RP K w H v d
  | .own xs => Owns K w H v xs
  | .obj a C ks ds => OwnsO K w H v a C ks ds
def RSn (K : PySem.W.Frag) (w : Wd) (H : Hp) (v : V) (s : Sl) : Prop := RSl K w H v s ∧ s.isObj = false
/-- what may be looked at: shown, or an owned list -/
def RB (K : PySem.W.Frag) (w : Wd) (H : Hp) (v : V) (d : D) : Prop := RP K w H v d ∨ ∃ xs, d = .lst xs ∧ Owns K w H v xs
section
variable {K : PySem.W.Frag} {w w1 w' w2 w0 : Wd} {c c1 c' c2 : Om} {H H1 H' H2 H0 : Hp} {v : V} {d : D}
theorem Le.owns {xs : List D} (x : Le w H w' H') (k : WOk w c H) (h : Owns K w H v xs) : Owns K w' H' v xs := by
  obtain ⟨a, vs, rfl, z, s, e, r⟩ := h
  refine ⟨a, vs, rfl, x.z a z, fun s' => ?_, x.ex a _ s e, (x.ls k).rps r⟩
  rcases x.s' a s' with q | q
  · exact s q
  · rw [e] at q
    cases q
theorem Le.ownsO {a : Addr} {C : Str} {ks : List Str} {ds : List D} (x : Le w H w' H') (k : WOk w c H) (h : OwnsO K w H v a C ks ds) : OwnsO K w' H' v a C ks ds := by
  obtain ⟨dx, fs, rfl, z, s, e, e2, r⟩ := h
  refine ⟨dx, fs, rfl, x.z a z, fun s' => ?_, x.ex a _ s e, e2, (x.ls k).rps r⟩
  rcases x.s' a s' with q | q
  · exact s q
  · rw [e] at q
    cases q
theorem Le.rp (x : Le w H w' H') (k : WOk w c H) (h : RP K w H v d) : RP K w' H' v d := (x.ls k).rp h
theorem Le.rps {vs : List V} {ds : List D} (x : Le w H w' H') (k : WOk w c H) (h : RPs K w H vs ds) : RPs K w' H' vs ds := (x.ls k).rps h
theorem Le.rb (x : Le w H w' H') (k : WOk w c H) (h : RB K w H v d) : RB K w' H' v d := h.imp (x.rp k) fun ⟨xs, e, o⟩ => ⟨xs, e, x.owns k o⟩
theorem Le.rsl {s : Sl} (x : Le w H w' H') (k : WOk w c H) (h : RSl K w H v s) : RSl K w' H' v s := match s, h with
  | .val _, h => x.rp k h
  | .own _, h => x.owns k h
  | .obj _ _ _ _, h => x.ownsO k h
theorem RSl.rb {s : Sl} (h : RSl K w H v s) (no : s.isObj = false) : RB K w H v s.d := match s, h with
  | .val _, h => .inl h
  | .own xs, h => .inr ⟨xs, rfl, h⟩
  | .obj _ _ _ _, _ => nomatch no
/-- the names and what they hold -/
abbrev PSt := List (Option Sl)
structure RelS (K : PySem.W.Frag) (w0 : Wd) (H0 : Hp) (w : Wd) (c : Om) (H : Hp) (σ : L2.St) (ρ : PSt) : Prop where
  le : Le w0 H0 w H
  ok : WOk w c H
  len : σ.length = ρ.length
  sl : ∀ (i : Nat) (s : Sl), ρ[i]? = some (some s) → ∃ v, σ[i]? = some (some v) ∧ RSl K w H v s ∧ (s.isOwn = true → ∀ a, v = .ref a → H0 a = none)
  ds : ∀ (i j : Nat) (xs ys : List D) (v : V), i ≠ j → ρ[i]? = some (some (.own xs)) → ρ[j]? = some (some (.own ys)) → σ[i]? = some (some v) → σ[j]? ≠ some (some v)
  ob : ∀ (i : Nat) (s : Sl), ρ[i]? = some (some s) → s.isObj = true → i = 0
variable {σ : L2.St} {ρ : PSt}
theorem RelS.mono (k0 : WOk w0 c1 H0) (R : RelS K w0 H0 w c H σ ρ) (x : Le w H w' H') (k : WOk w' c' H') : RelS K w0 H0 w' c' H' σ ρ :=
  ⟨Le.trans k0 R.le x, k, R.len, fun i s h => let ⟨v, e, r, n⟩ := R.sl i s h; ⟨v, e, x.rsl R.ok r, n⟩, R.ds, R.ob⟩
theorem RelS.own_some (R : RelS K w0 H0 w c H σ ρ) {i : Nat} {xs : List D} {a : Addr} (h : ρ[i]? = some (some (.own xs))) (e : σ[i]? = some (some (.ref a))) : w.Z a ∧ ¬ w.S a ∧ H0 a = none ∧ ∃ vs, H a = some (.lst vs) ∧ RPs K w H vs xs := by
  obtain ⟨v, e', r, n⟩ := R.sl i _ h
  rw [e] at e'
  cases e'
  obtain ⟨b, vs, eb, z, s, e2, r2⟩ := r
  cases eb
  exact ⟨z, s, n rfl _ rfl, vs, e2, r2⟩
/-- a name is set; an owned list is none that another name owns -/
theorem RelS.set (R : RelS K w0 H0 w c H σ ρ) {i : Nat} {s : Sl} (rn : RSn K w H v s) (n0 : s.isOwn = true → ∀ a, v = .ref a → H0 a = none)
    (n : s.isOwn = true → ∀ (j : Nat) (ys : List D), j ≠ i → ρ[j]? = some (some (.own ys)) → σ[j]? ≠ some (some v)) : RelS K w0 H0 w c H (σ.set i (some v)) (ρ.set i (some s)) where
  le := R.le
  ok := R.ok
  len := by rw [List.length_set, List.length_set, R.len]
  sl := fun j t h => by
    by_cases e : i = j
    · subst e
      have hi : i < ρ.length := by
        have := (List.getElem?_eq_some_iff.mp h).1
        rwa [List.length_set] at this
      rw [List.getElem?_set_self hi] at h
      cases h
      exact ⟨v, List.getElem?_set_self (by rw [R.len]; exact hi), rn.1, n0⟩
    · rw [List.getElem?_set_ne e] at h
      rw [List.getElem?_set_ne e]
      exact R.sl j t h
  ds := fun j k xs ys u hjk h1 h2 h3 h4 => by
    have at_ : ∀ (j : Nat) (xs : List D), (ρ.set i (some s))[j]? = some (some (.own xs)) → i = j → s = .own xs := fun j xs h e => by
      subst e
      have hi : i < ρ.length := by
        have := (List.getElem?_eq_some_iff.mp h).1
        rwa [List.length_set] at this
      rw [List.getElem?_set_self hi] at h
      cases h
      rfl
    have ats : ∀ (j : Nat) (u : V), (σ.set i (some v))[j]? = some (some u) → i = j → u = v := fun j u h e => by
      subst e
      have hi : i < σ.length := by
        have := (List.getElem?_eq_some_iff.mp h).1
        rwa [List.length_set] at this
      rw [List.getElem?_set_self hi] at h
      cases h
      rfl
    by_cases ej : i = j
    · have e1 := at_ j xs h1 ej
      have e2 := ats j u h3 ej
      have ek : i ≠ k := fun z => hjk (ej.symm.trans z)
      rw [List.getElem?_set_ne ek] at h2 h4
      rw [e2] at h4
      exact n (by rw [e1]; rfl) k ys (fun z => ek z.symm) h2 h4
    · rw [List.getElem?_set_ne ej] at h1 h3
      by_cases ek : i = k
      · have e1 := at_ k ys h2 ek
        have e2 := ats k u h4 ek
        rw [e2] at h3
        exact n (by rw [e1]; rfl) j xs (fun z => ej z.symm) h1 h3
      · rw [List.getElem?_set_ne ek] at h2 h4
        exact R.ds j k xs ys u hjk h1 h2 h3 h4
  ob := fun j t h ht => by
    by_cases e : i = j
    · subst e
      have hi : i < ρ.length := by
        have := (List.getElem?_eq_some_iff.mp h).1
        rwa [List.length_set] at this
      rw [List.getElem?_set_self hi] at h
      cases h
      rw [rn.2] at ht
      cases ht
    · rw [List.getElem?_set_ne e] at h
      exact R.ob j t h ht
/-- names are forgotten -/
theorem RelS.forget (R : RelS K w0 H0 w c H σ ρ) {σ' : L2.St} {ρ' : PSt} (hl : σ'.length = ρ'.length) (h : ∀ (i : Nat) (s : Sl), ρ'[i]? = some (some s) → ρ[i]? = some (some s)) (hs : ∀ (i : Nat) (s : Sl), ρ'[i]? = some (some s) → σ'[i]? = σ[i]?) : RelS K w0 H0 w c H σ' ρ' :=
  ⟨R.le, R.ok, hl, fun i s e => let ⟨v, e', r, n⟩ := R.sl i s (h i s e); ⟨v, by rw [hs i s e]; exact e', r, n⟩, fun i j xs ys v n e1 e2 e3 => by
    rw [hs i _ e1] at e3
    rw [hs j _ e2]
    exact R.ds i j xs ys v n (h i _ e1) (h j _ e2) e3, fun i s e => R.ob i s (h i s e)⟩
/-- an owned list is written -/
theorem RelS.put (R : RelS K w0 H0 w c H σ ρ) {i : Nat} {xs ys : List D} {a : Addr} {vs : List V} (h : ρ[i]? = some (some (.own xs))) (e : σ[i]? = some (some (.ref a))) (r : RPs K w H vs ys) : RelS K w0 H0 w c (upd H a (.lst vs)) σ (ρ.set i (some (.own ys))) ∧ Ls w H w (upd H a (.lst vs)) := by
  obtain ⟨z, s, n0, us, e2, r2⟩ := R.own_some h e
  have hi : i < ρ.length := (List.getElem?_eq_some_iff.mp h).1
  have cu : cut w.Z (upd H a (.lst vs)) = cut w.Z H := cut_upd z
  refine ⟨⟨R.le.put n0, R.ok.put s, by rw [List.length_set]; exact R.len, fun j t g => ?_, fun j k xs1 ys1 v1 hjk g1 g2 g3 => ?_, fun j t g => ?_⟩, .put z⟩
  · by_cases ej : i = j
    · subst ej
      rw [List.getElem?_set_self hi] at g
      cases g
      refine ⟨.ref a, e, ⟨a, vs, rfl, z, s, upd_same, ?_⟩, fun _ b eb => by cases eb; exact n0⟩
      unfold RPs
      rw [cu]
      exact r
    · rw [List.getElem?_set_ne ej] at g
      obtain ⟨v, e3, r3, n3⟩ := R.sl j t g
      refine ⟨v, e3, ?_, n3⟩
      cases t with
      | val d =>
        show Rep K w.S (cut w.Z (upd H a (.lst vs))) v d
        rw [cu]
        exact r3
      | own zs =>
        obtain ⟨b, us2, rfl, z2, s2, e4, r4⟩ := r3
        have nb : b ≠ a := fun q => by
          subst q
          exact R.ds i j xs zs (.ref b) ej h g e e3
        refine ⟨b, us2, rfl, z2, s2, by rw [upd_ne nb]; exact e4, ?_⟩
        unfold RPs
        rw [cu]
        exact r4
      | obj b C ks ds =>
        obtain ⟨dx2, fs2, rfl, z2, s2, e4, e5, r4⟩ := r3
        have nb : b ≠ a := fun q => by
          subst q
          rw [e2] at e4
          cases e4
        refine ⟨dx2, fs2, rfl, z2, s2, by rw [upd_ne nb]; exact e4, e5, ?_⟩
        unfold RPs
        rw [cu]
        exact r4
  · have back : ∀ (j : Nat) (xs1 : List D), (ρ.set i (some (.own ys)))[j]? = some (some (.own xs1)) → ∃ zs, ρ[j]? = some (some (.own zs)) := fun j xs1 g => by
      by_cases ej : i = j
      · exact ⟨xs, by rw [← ej]; exact h⟩
      · rw [List.getElem?_set_ne ej] at g
        exact ⟨xs1, g⟩
    obtain ⟨z1, g1⟩ := back j xs1 g1
    obtain ⟨z2, g2⟩ := back k ys1 g2
    exact R.ds j k z1 z2 v1 hjk g1 g2 g3
  · intro ht
    by_cases ej : i = j
    · subst ej
      rw [List.getElem?_set_self hi] at g
      cases g
      cases ht
    · rw [List.getElem?_set_ne ej] at g
      exact R.ob j t g ht
/-- an owned list is shown -/
theorem RelS.frz (R : RelS K w0 H0 w c H σ ρ) {i : Nat} {xs : List D} {a : Addr} (h : ρ[i]? = some (some (.own xs))) (e : σ[i]? = some (some (.ref a))) (k0 : WOk w0 c1 H0) : RelS K w0 H0 (w.show a) c H σ (ρ.set i (some (.val (.lst xs)))) ∧ Ls w H (w.show a) H := by
  obtain ⟨z, s, n0, us, e2, r2⟩ := R.own_some h e
  have hi : i < ρ.length := (List.getElem?_eq_some_iff.mp h).1
  have L : Ls w H (w.show a) H := ⟨fun _ h => h, hide_show⟩
  refine ⟨⟨R.le.shw n0 k0, R.ok.shw s, by rw [List.length_set]; exact R.len, fun j t g => ?_, fun j k xs1 ys1 v1 hjk g1 g2 g3 => ?_, fun j t g => ?_⟩, L⟩
  · by_cases ej : i = j
    · subst ej
      rw [List.getElem?_set_self hi] at g
      cases g
      refine ⟨.ref a, e, ?_, fun q => nomatch q⟩
      exact Rep.lst (by rw [cut_at (fun q => q.2 rfl)]; exact e2) (L.rps r2)
    · rw [List.getElem?_set_ne ej] at g
      obtain ⟨v, e3, r3, n3⟩ := R.sl j t g
      refine ⟨v, e3, ?_, n3⟩
      cases t with
      | val d => exact L.rp r3
      | own zs =>
        obtain ⟨b, us2, rfl, z2, s2, e4, r4⟩ := r3
        have nb : b ≠ a := fun q => by
          subst q
          exact R.ds i j xs zs (.ref b) ej h g e e3
        exact ⟨b, us2, rfl, ⟨z2, nb⟩, s2, e4, L.rps r4⟩
      | obj b C ks ds =>
        obtain ⟨dx2, fs2, rfl, z2, s2, e4, e5, r4⟩ := r3
        have nb : b ≠ a := fun q => by
          subst q
          rw [e2] at e4
          cases e4
        exact ⟨dx2, fs2, rfl, ⟨z2, nb⟩, s2, e4, e5, L.rps r4⟩
  · have back : ∀ (j : Nat) (xs1 : List D), (ρ.set i (some (.val (.lst xs))))[j]? = some (some (.own xs1)) → ρ[j]? = some (some (.own xs1)) := fun j xs1 g => by
      by_cases ej : i = j
      · subst ej
        rw [List.getElem?_set_self hi] at g
        cases g
      · rw [List.getElem?_set_ne ej] at g
        exact g
    exact R.ds j k xs1 ys1 v1 hjk (back j xs1 g1) (back k ys1 g2) g3
  · intro ht
    by_cases ej : i = j
    · subst ej
      rw [List.getElem?_set_self hi] at g
      cases g
      cases ht
    · rw [List.getElem?_set_ne ej] at g
      exact R.ob j t g ht
/-- the object that is being made is written -/
theorem RelS.putO (R : RelS K w0 H0 w c H σ ρ) {C : Str} {ks ks' : List Str} {ds ds' : List D} {a dx : Addr} {fs fs' : List (Str × V)} (h : ρ[0]? = some (some (.obj a C ks ds))) (e2 : H a = some (.ins (He.ga K C) dx fs))
    (ek : fs'.map (·.1) = ks') (r : RPs K w H (fs'.map (·.2)) ds') : RelS K w0 H0 w c (upd H a (.ins (He.ga K C) dx fs')) σ (ρ.set 0 (some (.obj a C ks' ds'))) ∧ Ls w H w (upd H a (.ins (He.ga K C) dx fs')) := by
  obtain ⟨v, e, ⟨dx2, fs2, rfl, z, s, e3, e4, r2⟩, n0⟩ := R.sl 0 _ h
  have n0 := n0 rfl a rfl
  have hi : 0 < ρ.length := (List.getElem?_eq_some_iff.mp h).1
  have cu : cut w.Z (upd H a (.ins (He.ga K C) dx fs')) = cut w.Z H := cut_upd z
  have other : ∀ (j : Nat) (t : Sl), (ρ.set 0 (some (Sl.obj a C ks' ds')))[j]? = some (some t) → t.isObj = false → ρ[j]? = some (some t) := fun j t g ht => by
    by_cases ej : 0 = j
    · subst ej
      rw [List.getElem?_set_self hi] at g
      cases g
      cases ht
    · rw [List.getElem?_set_ne ej] at g
      exact g
  have ok2 : WOk w c (upd H a (.ins (He.ga K C) dx fs')) := ⟨R.ok.sz, fun d zd => by
    by_cases ed : d = a
    · exact ⟨.ins (He.ga K C) dx fs', by rw [ed]; exact upd_same, fun xs q => nomatch q⟩
    · obtain ⟨u, hu, nu⟩ := R.ok.al d zd
      exact ⟨u, by rw [upd_ne ed]; exact hu, nu⟩, fun d sd => (R.ok.br d sd).at fun ed => s (by rw [ed]; exact sd)⟩
  refine ⟨⟨R.le.put n0, ok2, by rw [List.length_set]; exact R.len, fun j t g => ?_, fun j k xs1 ys1 v1 hjk g1 g2 g3 => R.ds j k xs1 ys1 v1 hjk (other j _ g1 rfl) (other k _ g2 rfl) g3, fun j t g ht => ?_⟩, .put z⟩
  · by_cases ej : 0 = j
    · subst ej
      rw [List.getElem?_set_self hi] at g
      cases g
      refine ⟨.ref a, e, ⟨dx, fs', rfl, z, s, upd_same, ek, ?_⟩, fun _ b eb => by cases eb; exact n0⟩
      unfold RPs
      rw [cu]
      exact r
    · rw [List.getElem?_set_ne ej] at g
      obtain ⟨v, e3, r3, n3⟩ := R.sl j t g
      refine ⟨v, e3, ?_, n3⟩
      cases t with
      | val d =>
        show Rep K w.S (cut w.Z (upd H a _)) v d
        rw [cu]
        exact r3
      | own zs =>
        obtain ⟨b, us2, rfl, z2, s2, e4, r4⟩ := r3
        have nb : b ≠ a := fun q => by
          subst q
          rw [e2] at e4
          cases e4
        refine ⟨b, us2, rfl, z2, s2, by rw [upd_ne nb]; exact e4, ?_⟩
        unfold RPs
        rw [cu]
        exact r4
      | obj a2 C2 ks2 ds2 => exact absurd (R.ob j _ g rfl).symm ej
  · by_cases ej : 0 = j
    · exact ej.symm
    · rw [List.getElem?_set_ne ej] at g
      exact R.ob j t g ht
end
end WP
/-! ## the pure layer, part 2: readings without a heap -/
namespace WP
open PySem PySem.Spec PyProof.Rows L2 WK
abbrev PX (α : Type) := PSt → Om → (α → Om → Prop) → Prop
structure PEnds where
  nx : PSt → Om → Prop
  rt : D → Om → Prop
  bk : PSt → Om → Prop := fun _ _ => False
  ct : PSt → Om → Prop := fun _ _ => False
abbrev PSs' := PEnds → PSt → Om → Prop
abbrev PG' := D → PSt → Om → (PSt → Om → Prop) → Prop
abbrev PGs' := List D → PSt → Om → (PSt → Om → Prop) → Prop
/-- a scalar as data -/
def vD : V → D
  | .non => .non
  | .bl b => .bl b
  | .int i => .int i
  | .str x => .str x
  | _ => .brk
/-- an expression: its reading te of the heap answers what its reading pe without one answers -/
class LE (K : PySem.W.Frag) (te : TE) (pe : outParam (PX D)) : Prop where
  run : ∀ (w0 : Wd) (H0 : Hp) (c0 : Om) (w : Wd) (c : Om) (H : Hp) (σ : L2.St) (ρ : PSt) (Qp : D → Om → Prop) (Q : VK), WOk w0 c0 H0 → RelS K w0 H0 w c H σ ρ → pe ρ c Qp → (∀ v d w' c' H', Le w H w' H' → WOk w' c' H' → RP K w' H' v d → Qp d c' → Q v H') → te σ H Q
class LB (K : PySem.W.Frag) (te : TE) (pe : outParam (PX D)) : Prop where
  run : ∀ (w0 : Wd) (H0 : Hp) (c0 : Om) (w : Wd) (c : Om) (H : Hp) (σ : L2.St) (ρ : PSt) (Qp : D → Om → Prop) (Q : VK), WOk w0 c0 H0 → RelS K w0 H0 w c H σ ρ → pe ρ c Qp → (∀ v d w' c' H', Le w H w' H' → WOk w' c' H' → RB K w' H' v d → Qp d c' → Q v H') → te σ H Q
/-- a new list -/
class LF (K : PySem.W.Frag) (te : TE) (pe : outParam (PX (List D))) : Prop where
  run : ∀ (w0 : Wd) (H0 : Hp) (c0 : Om) (w : Wd) (c : Om) (H : Hp) (σ : L2.St) (ρ : PSt) (Qp : List D → Om → Prop) (Q : VK), WOk w0 c0 H0 → RelS K w0 H0 w c H σ ρ → pe ρ c Qp → (∀ v xs w' c' H', Le w H w' H' → WOk w' c' H' → Owns K w' H' v xs → (∀ a, v = .ref a → H a = none) → Qp xs c' → Q v H') → te σ H Q
class LSl (K : PySem.W.Frag) (te : TE) (pe : outParam (PX Sl)) : Prop where
  run : ∀ (w0 : Wd) (H0 : Hp) (c0 : Om) (w : Wd) (c : Om) (H : Hp) (σ : L2.St) (ρ : PSt) (Qp : Sl → Om → Prop) (Q : VK), WOk w0 c0 H0 → RelS K w0 H0 w c H σ ρ → pe ρ c Qp → (∀ v s w' c' H', Le w H w' H' → WOk w' c' H' → RSn K w' H' v s → (s.isOwn = true → ∀ a, v = .ref a → H a = none) → Qp s c' → Q v H') → te σ H Q
class LT (K : PySem.W.Frag) (te : TT) (pe : outParam (PX Bool)) : Prop where
  run : ∀ (w0 : Wd) (H0 : Hp) (c0 : Om) (w : Wd) (c : Om) (H : Hp) (σ : L2.St) (ρ : PSt) (Qp : Bool → Om → Prop) (Q : Bool → Hp → Prop), WOk w0 c0 H0 → RelS K w0 H0 w c H σ ρ → pe ρ c Qp → (∀ b w' c' H', Le w H w' H' → WOk w' c' H' → Qp b c' → Q b H') → te σ H Q
/-- arguments: shown, or just looked at -/
class LA (K : PySem.W.Frag) (ta : TA) (pa : outParam (PX (List D))) : Prop where
  run : ∀ (w0 : Wd) (H0 : Hp) (c0 : Om) (w : Wd) (c : Om) (H : Hp) (σ : L2.St) (ρ : PSt) (Qp : List D → Om → Prop) (Q : List V → Hp → Prop), WOk w0 c0 H0 → RelS K w0 H0 w c H σ ρ → pa ρ c Qp → (∀ vs ds w' c' H', Le w H w' H' → WOk w' c' H' → RPs K w' H' vs ds → Qp ds c' → Q vs H') → ta σ H Q
abbrev RBs (K : PySem.W.Frag) (w : Wd) (H : Hp) : List V → List D → Prop := Paired (RB K w H)
class LAB (K : PySem.W.Frag) (ta : TA) (pa : outParam (PX (List D))) : Prop where
  run : ∀ (w0 : Wd) (H0 : Hp) (c0 : Om) (w : Wd) (c : Om) (H : Hp) (σ : L2.St) (ρ : PSt) (Qp : List D → Om → Prop) (Q : List V → Hp → Prop), WOk w0 c0 H0 → RelS K w0 H0 w c H σ ρ → pa ρ c Qp → (∀ vs ds w' c' H', Le w H w' H' → WOk w' c' H' → RBs K w' H' vs ds → Qp ds c' → Q vs H') → ta σ H Q
/-- a store into a target: the names that it sets -/
class LG (K : PySem.W.Frag) (g : TG) (pg : outParam PG') (js : outParam (List Nat)) : Prop where
  run : ∀ (w0 : Wd) (H0 : Hp) (c0 : Om) (w : Wd) (c : Om) (H : Hp) (σ : L2.St) (ρ : PSt) (v : V) (d : D) (Qp : PSt → Om → Prop) (Q : L2.St → Hp → Prop), WOk w0 c0 H0 → RelS K w0 H0 w c H σ ρ → RP K w H v d → pg d ρ c Qp → (∀ w' c' H' σ' ρ', Le w H w' H' → RelS K w0 H0 w' c' H' σ' ρ' → (∀ vs : List Nat, (∀ j ∈ js, j ∈ vs) → wipe σ' vs = wipe σ vs) → Qp ρ' c' → Q σ' H') → g v σ H Q
class LGs (K : PySem.W.Frag) (g : TGs) (pg : outParam PGs') (js : outParam (List Nat)) : Prop where
  run : ∀ (w0 : Wd) (H0 : Hp) (c0 : Om) (w : Wd) (c : Om) (H : Hp) (σ : L2.St) (ρ : PSt) (vs : List V) (ds : List D) (Qp : PSt → Om → Prop) (Q : L2.St → Hp → Prop), WOk w0 c0 H0 → RelS K w0 H0 w c H σ ρ → RPs K w H vs ds → pg ds ρ c Qp → (∀ w' c' H' σ' ρ', Le w H w' H' → RelS K w0 H0 w' c' H' σ' ρ' → (∀ vs : List Nat, (∀ j ∈ js, j ∈ vs) → wipe σ' vs = wipe σ vs) → Qp ρ' c' → Q σ' H') → g vs σ H Q
structure EndsOk (K : PySem.W.Frag) (w0 : Wd) (H0 : Hp) (w : Wd) (H : Hp) (Dp : PEnds) (D : Ends) : Prop where
  nx : ∀ w' c' H' σ' ρ', RelS K w0 H0 w' c' H' σ' ρ' → Ls w H w' H' → Dp.nx ρ' c' → D.nx σ' H'
  bk : ∀ w' c' H' σ' ρ', RelS K w0 H0 w' c' H' σ' ρ' → Ls w H w' H' → Dp.bk ρ' c' → D.bk σ' H'
  ct : ∀ w' c' H' σ' ρ', RelS K w0 H0 w' c' H' σ' ρ' → Ls w H w' H' → Dp.ct ρ' c' → D.ct σ' H'
  rt : ∀ v d w' c' H', Le w0 H0 w' H' → WOk w' c' H' → RP K w' H' v d → Dp.rt d c' → D.rt v H'
class LS (K : PySem.W.Frag) (ts : TS) (ps : outParam PSs') : Prop where
  run : ∀ (w0 : Wd) (H0 : Hp) (c0 : Om) (w : Wd) (c : Om) (H : Hp) (σ : L2.St) (ρ : PSt) (Dp : PEnds) (D : Ends), WOk w0 c0 H0 → RelS K w0 H0 w c H σ ρ → ps Dp ρ c → EndsOk K w0 H0 w H Dp D → ts D σ H
/-- rules of operators, of calls of built-ins -/
abbrev PR (α β : Type) := α → Om → (β → Om → Prop) → Prop
class LR2 (K : PySem.W.Frag) (r : R2) (pr : outParam (D → PR D D)) : Prop where
  run : ∀ (w : Wd) (c : Om) (H : Hp) (x y : V) (a b : D) (Qp : D → Om → Prop) (Q : VK), WOk w c H → RB K w H x a → RB K w H y b → pr a b c Qp → (∀ v d w' c' H', Le w H w' H' → WOk w' c' H' → RP K w' H' v d → Qp d c' → Q v H') → r x y H Q
class LRF2 (K : PySem.W.Frag) (r : R2) (pr : outParam (D → PR D (List D))) : Prop where
  run : ∀ (w : Wd) (c : Om) (H : Hp) (x y : V) (a b : D) (Qp : List D → Om → Prop) (Q : VK), WOk w c H → RB K w H x a → RB K w H y b → pr a b c Qp → (∀ v xs w' c' H', Le w H w' H' → WOk w' c' H' → Owns K w' H' v xs → (∀ a, v = .ref a → H a = none) → Qp xs c' → Q v H') → r x y H Q
class LR1 (K : PySem.W.Frag) (r : V → Hp → VK → Prop) (pr : outParam (PR D D)) : Prop where
  run : ∀ (w : Wd) (c : Om) (H : Hp) (x : V) (a : D) (Qp : D → Om → Prop) (Q : VK), WOk w c H → RB K w H x a → pr a c Qp → (∀ v d w' c' H', Le w H w' H' → WOk w' c' H' → RP K w' H' v d → Qp d c' → Q v H') → r x H Q
class LRC (K : PySem.W.Frag) (r : List V → Hp → VK → Prop) (pr : outParam (PR (List D) D)) : Prop where
  run : ∀ (w : Wd) (c : Om) (H : Hp) (xs : List V) (ds : List D) (Qp : D → Om → Prop) (Q : VK), WOk w c H → RBs K w H xs ds → pr ds c Qp → (∀ v d w' c' H', Le w H w' H' → WOk w' c' H' → RP K w' H' v d → Qp d c' → Q v H') → r xs H Q
class LRCF (K : PySem.W.Frag) (r : List V → Hp → VK → Prop) (pr : outParam (PR (List D) (List D))) : Prop where
  run : ∀ (w : Wd) (c : Om) (H : Hp) (xs : List V) (ds : List D) (Qp : List D → Om → Prop) (Q : VK), WOk w c H → RBs K w H xs ds → pr ds c Qp → (∀ v xs w' c' H', Le w H w' H' → WOk w' c' H' → Owns K w' H' v xs → (∀ a, v = .ref a → H a = none) → Qp xs c' → Q v H') → r xs H Q
class LRM (K : PySem.W.Frag) (r : V → List V → Hp → VK → Prop) (pr : outParam (D → PR (List D) D)) : Prop where
  run : ∀ (w : Wd) (c : Om) (H : Hp) (x : V) (a : D) (xs : List V) (ds : List D) (Qp : D → Om → Prop) (Q : VK), WOk w c H → RB K w H x a → RBs K w H xs ds → pr a ds c Qp → (∀ v d w' c' H', Le w H w' H' → WOk w' c' H' → RP K w' H' v d → Qp d c' → Q v H') → r x xs H Q
class LTy (K : PySem.W.Frag) (T : String) (p : outParam (D → Prop)) : Prop where
  run : ∀ (w : Wd) (H : Hp) (x : V) (a : D), RB K w H x a → p a → tyV K T x H
def isStrD : D → Prop
  | .str _ => True
  | _ => False
def isLstD : D → Prop
  | .lst _ => True
  | _ => False
class LO (K : PySem.W.Frag) (t : TO) (p : outParam (PX (Option Int))) : Prop where
  run : ∀ (w0 : Wd) (H0 : Hp) (c0 : Om) (w : Wd) (c : Om) (H : Hp) (σ : L2.St) (ρ : PSt) (Qp : Option Int → Om → Prop) (Q : Option Int → Hp → Prop), WOk w0 c0 H0 → RelS K w0 H0 w c H σ ρ → p ρ c Qp → (∀ i w' c' H', Le w H w' H' → WOk w' c' H' → Qp i c' → Q i H') → t σ H Q
class LRS (K : PySem.W.Frag) (r : V → Option Int → Option Int → Hp → VK → Prop) (pr : outParam (D → Option Int → Option Int → Om → (D → Om → Prop) → Prop)) : Prop where
  run : ∀ (w : Wd) (c : Om) (H : Hp) (x : V) (a : D) (l u : Option Int) (Qp : D → Om → Prop) (Q : VK), WOk w c H → RB K w H x a → pr a l u c Qp → (∀ v d w' c' H', Le w H w' H' → WOk w' c' H' → RP K w' H' v d → Qp d c' → Q v H') → r x l u H Q
class LRSF (K : PySem.W.Frag) (r : V → Option Int → Option Int → Hp → VK → Prop) (pr : outParam (D → Option Int → Option Int → Om → (List D → Om → Prop) → Prop)) : Prop where
  run : ∀ (w : Wd) (c : Om) (H : Hp) (x : V) (a : D) (l u : Option Int) (Qp : List D → Om → Prop) (Q : VK), WOk w c H → RB K w H x a → pr a l u c Qp → (∀ v xs w' c' H', Le w H w' H' → WOk w' c' H' → Owns K w' H' v xs → (∀ a, v = .ref a → H a = none) → Qp xs c' → Q v H') → r x l u H Q
/-- what a loop (Ls) or a comprehension (Le) walks: these items -/
structure Walks (K : PySem.W.Frag) (R : Wd → Hp → Prop) (J : It) (xs : List D) : Prop where
  ex : ∃ (G : Hp → Prop) (Y : Nat → Hp → V → Hp → Prop), Walk J xs.length G Y ∧ (∀ w H, R w H → G H) ∧ ∀ i w c H x H', WOk w c H → R w H → i < xs.length → Y i H x H' → ∃ d, xs[i]? = some d ∧ Le w H w H' ∧ WOk w c H' ∧ RP K w H' x d
theorem Walks.wk {K : PySem.W.Frag} {R R' : Wd → Hp → Prop} {J : It} {xs : List D} (h : Walks K R J xs) (r : ∀ w H, R' w H → R w H) : Walks K R' J xs := by
  obtain ⟨G, Y, a, b, d⟩ := h.ex
  exact ⟨G, Y, a, fun w H q => b w H (r w H q), fun i w c H x H' k q => d i w c H x H' k (r w H q)⟩
class LI (K : PySem.W.Frag) (wi : TI) (pi : outParam (PX (List D))) : Prop where
  run : ∀ (w0 : Wd) (H0 : Hp) (c0 : Om) (w : Wd) (c : Om) (H : Hp) (σ : L2.St) (ρ : PSt) (Qp : List D → Om → Prop) (R : It → Hp → Prop), WOk w0 c0 H0 → RelS K w0 H0 w c H σ ρ → pi ρ c Qp → (∀ J xs w' c' H', Le w H w' H' → WOk w' c' H' → Walks K (Ls w' H') J xs → Qp xs c' → R J H') → wi σ H R
class LIB (K : PySem.W.Frag) (wi : TI) (pi : outParam (PX (List D))) : Prop where
  run : ∀ (w0 : Wd) (H0 : Hp) (c0 : Om) (w : Wd) (c : Om) (H : Hp) (σ : L2.St) (ρ : PSt) (Qp : List D → Om → Prop) (R : It → Hp → Prop), WOk w0 c0 H0 → RelS K w0 H0 w c H σ ρ → pi ρ c Qp → (∀ J xs w' c' H', Le w H w' H' → WOk w' c' H' → Walks K (Le w' H') J xs → Qp xs c' → R J H') → wi σ H R
section
variable {K : PySem.W.Frag}
/-! ### expressions -/
def pVar (i : Nat) : PX D := fun ρ c Q => ∃ d, ρ[i]? = some (some (.val d)) ∧ Q d c
def pVarB (i : Nat) : PX D := fun ρ c Q => ∃ s, ρ[i]? = some (some s) ∧ s.isObj = false ∧ Q s.d c
def pC (d : D) : PX D := fun _ c Q => Q d c
def pOp {α : Type} (r : D → PR D α) (pa pb : PX D) : PX α := fun ρ c Q => pa ρ c fun a c1 => pb ρ c1 fun b c2 => r a b c2 Q
def pUn (r : PR D D) (pa : PX D) : PX D := fun ρ c Q => pa ρ c fun a c1 => r a c1 Q
def pCB {α : Type} (r : PR (List D) α) (pa : PX (List D)) : PX α := fun ρ c Q => pa ρ c fun ds c1 => r ds c1 Q
def pTest (pe : PX D) : PX Bool := fun ρ c Q => pe ρ c fun d c1 => ∃ b, d = .bl b ∧ Q b c1
def pAnd (p q : PX Bool) : PX Bool := fun ρ c Q => p ρ c fun b c1 => if b = true then q ρ c1 Q else Q false c1
def pOr (p q : PX Bool) : PX Bool := fun ρ c Q => p ρ c fun b c1 => if b = true then Q true c1 else q ρ c1 Q
def pNot (p : PX Bool) : PX Bool := fun ρ c Q => p ρ c fun b c1 => Q (!b) c1
def pAndV (p q : PX D) : PX D := fun ρ c Q => p ρ c fun d c1 => ∃ b, d = .bl b ∧ if b = true then q ρ c1 Q else Q (.bl false) c1
def pOrV (p q : PX D) : PX D := fun ρ c Q => p ρ c fun d c1 => ∃ b, d = .bl b ∧ if b = true then Q (.bl true) c1 else q ρ c1 Q
def pNotV (p : PX D) : PX D := fun ρ c Q => p ρ c fun d c1 => ∃ b, d = .bl b ∧ Q (.bl (!b)) c1
def pIf {α : Type} (t : PX Bool) (p q : PX α) : PX α := fun ρ c Q => t ρ c fun b c1 => if b = true then p ρ c1 Q else q ρ c1 Q
def pNil : PX (List D) := fun _ c Q => Q [] c
def pCons (p : PX D) (q : PX (List D)) : PX (List D) := fun ρ c Q => p ρ c fun d c1 => q ρ c1 fun ds c2 => Q (d :: ds) c2
def pTup (p : PX (List D)) : PX D := fun ρ c Q => p ρ c fun ds c1 => ds.length ≤ sizeLine ∧ Q (.tup ds) c1
def pLst (p : PX (List D)) : PX (List D) := fun ρ c Q => p ρ c fun ds c1 => ds.length ≤ sizeLine ∧ Q ds c1
def pChain (r r' : D → PR D D) (pa pb pc : PX D) : PX D := fun ρ c Q => pa ρ c fun a c1 => pb ρ c1 fun b c2 => r a b c2 fun d c3 => ∃ k, d = .bl k ∧ if k = true then pc ρ c3 fun e c4 => r' b e c4 Q else Q (.bl false) c3
def pList (p : PX (List D)) : PX D := fun ρ c Q => p ρ c fun xs c1 => Q (.lst xs) c1
def pOwn (p : PX (List D)) : PX Sl := fun ρ c Q => p ρ c fun xs c1 => Q (.own xs) c1
def pVal (p : PX D) : PX Sl := fun ρ c Q => p ρ c fun d c1 => Q (.val d) c1
instance (i : Nat) : LE K (tVar i) (pVar i) where
  run := fun w0 H0 c0 w c H σ ρ Qp Q k0 R ⟨d, h, q⟩ k => by
    obtain ⟨v, e, r, _⟩ := R.sl i _ h
    exact ⟨v, e, k v d w c H .refl R.ok r q⟩
instance (priority := high) lbVar (i : Nat) : LB K (tVar i) (pVarB i) where
  run := fun w0 H0 c0 w c H σ ρ Qp Q k0 R ⟨s, h, no, q⟩ k => by
    obtain ⟨v, e, r, _⟩ := R.sl i _ h
    exact ⟨v, e, k v s.d w c H .refl R.ok (r.rb no) q⟩
instance (priority := low) lbOf {te : TE} {pe : PX D} [h : LE K te pe] : LB K te pe where
  run := fun w0 H0 c0 w c H σ ρ Qp Q k0 R p k => h.run w0 H0 c0 w c H σ ρ Qp Q k0 R p fun v d w' c' H' l o r q => k v d w' c' H' l o (.inl r) q
theorem le_const (v : V) (d : D) (h : ∀ w H, RP K w H v d) : LE K (tC v) (pC d) where
  run := fun w0 H0 c0 w c H σ ρ Qp Q k0 R q k => k v d w c H .refl R.ok (h w H) q
instance : LE K (tC .non) (pC .non) := le_const _ _ fun _ _ => .non
instance (b : Bool) : LE K (tC (.bl b)) (pC (.bl b)) := le_const _ _ fun _ _ => .bl b
instance (b : Int) : LE K (tC (.int b)) (pC (.int b)) := le_const _ _ fun _ _ => .int b
instance (b : Str) : LE K (tC (.str b)) (pC (.str b)) := le_const _ _ fun _ _ => .str b
instance {r : R2} {pr : D → PR D D} {ta tb : TE} {pa pb : PX D} [hr : LR2 K r pr] [ha : LB K ta pa] [hb : LB K tb pb] : LE K (tOp r ta tb) (pOp pr pa pb) where
  run := fun w0 H0 c0 w c H σ ρ Qp Q k0 R p k => ha.run w0 H0 c0 w c H σ ρ _ _ k0 R p fun x a w1 c1 H1 l1 o1 r1 q1 =>
    hb.run w0 H0 c0 w1 c1 H1 σ ρ _ _ k0 (R.mono k0 l1 o1) q1 fun y b w2 c2 H2 l2 o2 r2 q2 =>
      hr.run w2 c2 H2 x y a b Qp Q o2 (l2.rb o1 r1) r2 q2 fun v d w3 c3 H3 l3 o3 r3 q3 => k v d w3 c3 H3 ((l1.trans R.ok l2).trans R.ok l3) o3 r3 q3
instance {r : R2} {pr : D → PR D (List D)} {ta tb : TE} {pa pb : PX D} [hr : LRF2 K r pr] [ha : LB K ta pa] [hb : LB K tb pb] : LF K (tOp r ta tb) (pOp pr pa pb) where
  run := fun w0 H0 c0 w c H σ ρ Qp Q k0 R p k => ha.run w0 H0 c0 w c H σ ρ _ _ k0 R p fun x a w1 c1 H1 l1 o1 r1 q1 =>
    hb.run w0 H0 c0 w1 c1 H1 σ ρ _ _ k0 (R.mono k0 l1 o1) q1 fun y b w2 c2 H2 l2 o2 r2 q2 =>
      hr.run w2 c2 H2 x y a b Qp Q o2 (l2.rb o1 r1) r2 q2 fun v d w3 c3 H3 l3 o3 r3 n3 q3 => k v d w3 c3 H3 ((l1.trans R.ok l2).trans R.ok l3) o3 r3 (fun z e => by
        rcases (l1.trans R.ok l2).back (n3 z e) with s | s
        · obtain ⟨u, hu, _⟩ := o2.br z ((l1.trans R.ok l2).s z s)
          rw [n3 z e] at hu
          cases hu
        · exact s) q3
/-- a new list, shown -/
instance (priority := low) leOfF {te : TE} {pe : PX (List D)} [h : LF K te pe] : LE K te (pList pe) where
  run := fun w0 H0 c0 w c H σ ρ Qp Q k0 R p k => h.run w0 H0 c0 w c H σ ρ _ Q k0 R p fun v xs w' c' H' l o r n q => by
    obtain ⟨a, vs, rfl, z, s, e, r2⟩ := r
    refine k (.ref a) (.lst xs) (w'.show a) c' H' (l.shw (n a rfl) R.ok) (o.shw s) (.lst (by rw [cut_at (fun q => q.2 rfl)]; exact e) (Reps.mono hide_show (fun _ h => h) r2)) q
/-- what a name is to own -/
def tOwn (te : TE) : TE := te
theorem _root_.WP.pe_own {X : Cx} {e : Expr} {te : TE} (h : PE X e te) : PE X e (tOwn te) := h
instance {te : TE} {pe : PX (List D)} [h : LF K te pe] : LSl K (tOwn te) (pOwn pe) where
  run := fun w0 H0 c0 w c H σ ρ Qp Q k0 R p k => h.run w0 H0 c0 w c H σ ρ _ Q k0 R p fun v xs w' c' H' l o r n q => k v (.own xs) w' c' H' l o ⟨r, rfl⟩ (fun _ => n) q
instance (priority := low) {te : TE} {pe : PX D} [h : LE K te pe] : LSl K te (pVal pe) where
  run := fun w0 H0 c0 w c H σ ρ Qp Q k0 R p k => h.run w0 H0 c0 w c H σ ρ _ Q k0 R p fun v d w' c' H' l o r q => k v (.val d) w' c' H' l o ⟨r, rfl⟩ (fun e => nomatch e) q
instance {r : V → Hp → VK → Prop} {pr : PR D D} {ta : TE} {pa : PX D} [hr : LR1 K r pr] [ha : LB K ta pa] : LE K (tUn r ta) (pUn pr pa) where
  run := fun w0 H0 c0 w c H σ ρ Qp Q k0 R p k => ha.run w0 H0 c0 w c H σ ρ _ _ k0 R p fun x a w1 c1 H1 l1 o1 r1 q1 =>
    hr.run w1 c1 H1 x a Qp Q o1 r1 q1 fun v d w3 c3 H3 l3 o3 r3 q3 => k v d w3 c3 H3 (l1.trans R.ok l3) o3 r3 q3
instance {r : List V → Hp → VK → Prop} {pr : PR (List D) D} {ta : TA} {pa : PX (List D)} [hr : LRC K r pr] [ha : LAB K ta pa] : LE K (tCB r ta) (pCB pr pa) where
  run := fun w0 H0 c0 w c H σ ρ Qp Q k0 R p k => ha.run w0 H0 c0 w c H σ ρ _ _ k0 R p fun x a w1 c1 H1 l1 o1 r1 q1 =>
    hr.run w1 c1 H1 x a Qp Q o1 r1 q1 fun v d w3 c3 H3 l3 o3 r3 q3 => k v d w3 c3 H3 (l1.trans R.ok l3) o3 r3 q3
instance {r : List V → Hp → VK → Prop} {pr : PR (List D) (List D)} {ta : TA} {pa : PX (List D)} [hr : LRCF K r pr] [ha : LAB K ta pa] : LF K (tCB r ta) (pCB pr pa) where
  run := fun w0 H0 c0 w c H σ ρ Qp Q k0 R p k => ha.run w0 H0 c0 w c H σ ρ _ _ k0 R p fun x a w1 c1 H1 l1 o1 r1 q1 =>
    hr.run w1 c1 H1 x a Qp Q o1 r1 q1 fun v d w3 c3 H3 l3 o3 r3 n3 q3 => k v d w3 c3 H3 (l1.trans R.ok l3) o3 r3 (fun z e => by
        rcases l1.back (n3 z e) with s | s
        · obtain ⟨u, hu, _⟩ := o1.br z (l1.s z s)
          rw [n3 z e] at hu
          cases hu
        · exact s) q3
instance : LA K tNil pNil where
  run := fun w0 H0 c0 w c H σ ρ Qp Q k0 R p k => k [] [] w c H .refl R.ok .nil p
instance {te : TE} {ta : TA} {pe : PX D} {pa : PX (List D)} [he : LE K te pe] [ha : LA K ta pa] : LA K (tCons te ta) (pCons pe pa) where
  run := fun w0 H0 c0 w c H σ ρ Qp Q k0 R p k => he.run w0 H0 c0 w c H σ ρ _ _ k0 R p fun x a w1 c1 H1 l1 o1 r1 q1 =>
    ha.run w0 H0 c0 w1 c1 H1 σ ρ _ _ k0 (R.mono k0 l1 o1) q1 fun y b w2 c2 H2 l2 o2 r2 q2 => k (x :: y) (a :: b) w2 c2 H2 (l1.trans R.ok l2) o2 (.cons (l2.rp o1 r1) r2) q2
theorem Le.rbs {w w' : Wd} {c : Om} {H H' : Hp} (x : Le w H w' H') (k : WOk w c H) : ∀ {vs : List V} {ds : List D}, RBs K w H vs ds → RBs K w' H' vs ds
  | _, _, .nil => .nil
  | _, _, .cons h r => .cons (x.rb k h) (Le.rbs x k r)
instance : LAB K tNil pNil where
  run := fun w0 H0 c0 w c H σ ρ Qp Q k0 R p k => k [] [] w c H .refl R.ok .nil p
instance {te : TE} {ta : TA} {pe : PX D} {pa : PX (List D)} [he : LB K te pe] [ha : LAB K ta pa] : LAB K (tCons te ta) (pCons pe pa) where
  run := fun w0 H0 c0 w c H σ ρ Qp Q k0 R p k => he.run w0 H0 c0 w c H σ ρ _ _ k0 R p fun x a w1 c1 H1 l1 o1 r1 q1 =>
    ha.run w0 H0 c0 w1 c1 H1 σ ρ _ _ k0 (R.mono k0 l1 o1) q1 fun y b w2 c2 H2 l2 o2 r2 q2 => k (x :: y) (a :: b) w2 c2 H2 (l1.trans R.ok l2) o2 (.cons (l2.rb o1 r1) r2) q2
instance {ta : TA} {pa : PX (List D)} [ha : LA K ta pa] : LE K (tTup ta) (pTup pa) where
  run := fun w0 H0 c0 w c H σ ρ Qp Q k0 R p k => ha.run w0 H0 c0 w c H σ ρ _ _ k0 R p fun x a w1 c1 H1 l1 o1 r1 q1 => by
    refine ⟨by rw [r1.len]; exact q1.1, fun p np => ?_⟩
    have l2 : Le w1 H1 w1 (upd H1 p (.tup x)) := .new np
    have o2 := o1.new (o := .tup x) np
    exact k (.ref p) (.tup a) w1 c1 _ (l1.trans R.ok l2) o2 (.tup (by rw [cut_at (o1.nz np)]; exact upd_same) (l2.rps o1 r1)) q1.2
/-- an empty dict -/
def pDNew : PX D := fun _ c Q => Q (.dic [] []) c
instance : LE K tDNewK pDNew where
  run := fun w0 H0 c0 w c H σ ρ Qp Q k0 R p k => fun a na =>
    k (.ref a) (.dic [] []) w c _ (.new na) (R.ok.new (o := .dK []) na) (.dic (kvs := []) (by rw [cut_at (R.ok.nz na)]; exact upd_same) rfl .nil) p
theorem nw {w w1 : Wd} {c c1 : Om} {H H1 : Hp} {p : Addr} (R : WOk w c H) (l : Le w H w1 H1) (o : WOk w1 c1 H1) (np : H1 p = none) : H p = none := by
  rcases l.back np with s | s
  · obtain ⟨u, hu, _⟩ := o.br p (l.s p s)
    rw [np] at hu
    cases hu
  · exact s
/-- a new list is laid -/
theorem owns_new {w : Wd} {c : Om} {H : Hp} {p : Addr} {vs : List V} {ds : List D} (o : WOk w c H) (np : H p = none) (r : RPs K w H vs ds) : Le w H (w.hide p) (upd H p (.lst vs)) ∧ WOk (w.hide p) c (upd H p (.lst vs)) ∧ Owns K (w.hide p) (upd H p (.lst vs)) (.ref p) ds :=
  ⟨.hid np, o.hid np, p, vs, rfl, .inr rfl, fun s => o.nz np (o.sz p s), upd_same, (Le.hid np).rps o r⟩
instance {ta : TA} {pa : PX (List D)} [ha : LA K ta pa] : LF K (tLst ta) (pLst pa) where
  run := fun w0 H0 c0 w c H σ ρ Qp Q k0 R p k => ha.run w0 H0 c0 w c H σ ρ _ _ k0 R p fun x a w1 c1 H1 l1 o1 r1 q1 => by
    refine ⟨by rw [r1.len]; exact q1.1, fun p np => ?_⟩
    obtain ⟨l2, o2, r2⟩ := owns_new o1 np r1
    exact k (.ref p) a _ c1 _ (l1.trans R.ok l2) o2 r2 (fun z e => by cases e; exact nw R.ok l1 o1 np) q1.2
instance {r r' : R2} {pr pr' : D → PR D D} {ta tb tc : TE} {pa pb pc : PX D} [hr : LR2 K r pr] [hr' : LR2 K r' pr'] [ha : LB K ta pa] [hb : LB K tb pb] [hc : LB K tc pc] : LE K (tChain r r' ta tb tc) (pChain pr pr' pa pb pc) where
  run := fun w0 H0 c0 w c H σ ρ Qp Q k0 R p k => ha.run w0 H0 c0 w c H σ ρ _ _ k0 R p fun x a w1 c1 H1 l1 o1 r1 q1 =>
    hb.run w0 H0 c0 w1 c1 H1 σ ρ _ _ k0 (R.mono k0 l1 o1) q1 fun y b w2 c2 H2 l2 o2 r2 q2 =>
      hr.run w2 c2 H2 x y a b _ _ o2 (l2.rb o1 r1) r2 q2 fun v d w3 c3 H3 l3 o3 r3 q3 => by
        obtain ⟨kk, rfl, q3⟩ := q3
        cases r3
        refine ⟨kk, rfl, ?_⟩
        have l13 := (l1.trans R.ok l2).trans R.ok l3
        cases kk with
        | false =>
          rw [if_neg Bool.false_ne_true] at q3 ⊢
          exact k (.bl false) (.bl false) w3 c3 H3 l13 o3 (.bl false) q3
        | true =>
          rw [if_pos rfl] at q3 ⊢
          exact hc.run w0 H0 c0 w3 c3 H3 σ ρ _ _ k0 (R.mono k0 l13 o3) q3 fun z e w4 c4 H4 l4 o4 r4 q4 =>
            hr'.run w4 c4 H4 y z b e Qp Q o4 ((l3.trans o2 l4).rb o2 r2) r4 q4 fun v d w5 c5 H5 l5 o5 r5 q5 => k v d w5 c5 H5 ((l13.trans R.ok l4).trans R.ok l5) o5 r5 q5
/-! ### tests -/
instance {te : TE} {pe : PX D} [h : LE K te pe] : LT K (tTest te) (pTest pe) where
  run := fun w0 H0 c0 w c H σ ρ Qp Q k0 R p k => h.run w0 H0 c0 w c H σ ρ _ _ k0 R p fun v d w' c' H' l o r q => by
    obtain ⟨b, rfl, q⟩ := q
    cases r
    exact ⟨b, rfl, k b w' c' H' l o q⟩
instance {te : TE} {pe : PX D} [h : LE K te pe] : LT K (tB te) (pTest pe) where
  run := fun w0 H0 c0 w c H σ ρ Qp Q k0 R p k => h.run w0 H0 c0 w c H σ ρ _ _ k0 R p fun v d w' c' H' l o r q => by
    obtain ⟨b, rfl, q⟩ := q
    cases r
    exact ⟨b, rfl, k b w' c' H' l o q⟩
instance {t u : TT} {p q : PX Bool} [h : LT K t p] [h' : LT K u q] : LT K (tAnd t u) (pAnd p q) where
  run := fun w0 H0 c0 w c H σ ρ Qp Q k0 R p k => h.run w0 H0 c0 w c H σ ρ _ _ k0 R p fun b w1 c1 H1 l1 o1 q1 => by
    cases b with
    | true =>
      rw [if_pos rfl] at q1 ⊢
      exact h'.run w0 H0 c0 w1 c1 H1 σ ρ _ _ k0 (R.mono k0 l1 o1) q1 fun b w2 c2 H2 l2 o2 q2 => k b w2 c2 H2 (l1.trans R.ok l2) o2 q2
    | false =>
      rw [if_neg Bool.false_ne_true] at q1 ⊢
      exact k false w1 c1 H1 l1 o1 q1
instance {t u : TT} {p q : PX Bool} [h : LT K t p] [h' : LT K u q] : LT K (tOr t u) (pOr p q) where
  run := fun w0 H0 c0 w c H σ ρ Qp Q k0 R p k => h.run w0 H0 c0 w c H σ ρ _ _ k0 R p fun b w1 c1 H1 l1 o1 q1 => by
    cases b with
    | true =>
      rw [if_pos rfl] at q1 ⊢
      exact k true w1 c1 H1 l1 o1 q1
    | false =>
      rw [if_neg Bool.false_ne_true] at q1 ⊢
      exact h'.run w0 H0 c0 w1 c1 H1 σ ρ _ _ k0 (R.mono k0 l1 o1) q1 fun b w2 c2 H2 l2 o2 q2 => k b w2 c2 H2 (l1.trans R.ok l2) o2 q2
instance {t : TT} {p : PX Bool} [h : LT K t p] : LT K (tNot t) (pNot p) where
  run := fun w0 H0 c0 w c H σ ρ Qp Q k0 R p k => h.run w0 H0 c0 w c H σ ρ _ _ k0 R p fun b w1 c1 H1 l1 o1 q1 => k (!b) w1 c1 H1 l1 o1 q1
instance {t u : TE} {p q : PX D} [h : LE K t p] [h' : LE K u q] : LE K (tAndV t u) (pAndV p q) where
  run := fun w0 H0 c0 w c H σ ρ Qp Q k0 R p k => h.run w0 H0 c0 w c H σ ρ _ _ k0 R p fun v d w1 c1 H1 l1 o1 r1 q1 => by
    obtain ⟨b, rfl, q1⟩ := q1
    cases r1
    refine ⟨b, rfl, ?_⟩
    cases b with
    | true =>
      rw [if_pos rfl] at q1 ⊢
      exact h'.run w0 H0 c0 w1 c1 H1 σ ρ _ _ k0 (R.mono k0 l1 o1) q1 fun v d w2 c2 H2 l2 o2 r2 q2 => k v d w2 c2 H2 (l1.trans R.ok l2) o2 r2 q2
    | false =>
      rw [if_neg Bool.false_ne_true] at q1 ⊢
      exact k _ _ w1 c1 H1 l1 o1 (.bl false) q1
instance {t u : TE} {p q : PX D} [h : LE K t p] [h' : LE K u q] : LE K (tOrV t u) (pOrV p q) where
  run := fun w0 H0 c0 w c H σ ρ Qp Q k0 R p k => h.run w0 H0 c0 w c H σ ρ _ _ k0 R p fun v d w1 c1 H1 l1 o1 r1 q1 => by
    obtain ⟨b, rfl, q1⟩ := q1
    cases r1
    refine ⟨b, rfl, ?_⟩
    cases b with
    | true =>
      rw [if_pos rfl] at q1 ⊢
      exact k _ _ w1 c1 H1 l1 o1 (.bl true) q1
    | false =>
      rw [if_neg Bool.false_ne_true] at q1 ⊢
      exact h'.run w0 H0 c0 w1 c1 H1 σ ρ _ _ k0 (R.mono k0 l1 o1) q1 fun v d w2 c2 H2 l2 o2 r2 q2 => k v d w2 c2 H2 (l1.trans R.ok l2) o2 r2 q2
instance {t : TE} {p : PX D} [h : LE K t p] : LE K (tNotV t) (pNotV p) where
  run := fun w0 H0 c0 w c H σ ρ Qp Q k0 R p k => h.run w0 H0 c0 w c H σ ρ _ _ k0 R p fun v d w1 c1 H1 l1 o1 r1 q1 => by
    obtain ⟨b, rfl, q1⟩ := q1
    cases r1
    exact ⟨b, rfl, k _ _ w1 c1 H1 l1 o1 (.bl _) q1⟩
instance {t : TT} {u x : TE} {p : PX Bool} {q y : PX D} [h : LT K t p] [h1 : LE K u q] [h2 : LE K x y] : LE K (tIf t u x) (pIf p q y) where
  run := fun w0 H0 c0 w c H σ ρ Qp Q k0 R p k => h.run w0 H0 c0 w c H σ ρ _ _ k0 R p fun b w1 c1 H1 l1 o1 q1 => by
    cases b with
    | true =>
      rw [if_pos rfl] at q1 ⊢
      exact h1.run w0 H0 c0 w1 c1 H1 σ ρ _ _ k0 (R.mono k0 l1 o1) q1 fun v d w2 c2 H2 l2 o2 r2 q2 => k v d w2 c2 H2 (l1.trans R.ok l2) o2 r2 q2
    | false =>
      rw [if_neg Bool.false_ne_true] at q1 ⊢
      exact h2.run w0 H0 c0 w1 c1 H1 σ ρ _ _ k0 (R.mono k0 l1 o1) q1 fun v d w2 c2 H2 l2 o2 r2 q2 => k v d w2 c2 H2 (l1.trans R.ok l2) o2 r2 q2
/-! ### slices, methods -/
def pNoPart : PX (Option Int) := fun _ c Q => Q none c
def pPart (p : PX D) : PX (Option Int) := fun ρ c Q => p ρ c fun d c1 => ∃ i, d = .int i ∧ Q (some i) c1
instance : LO K tNoPart pNoPart where
  run := fun w0 H0 c0 w c H σ ρ Qp Q k0 R p k => k none w c H .refl R.ok p
instance {te : TE} {pe : PX D} [h : LE K te pe] : LO K (tPart te) (pPart pe) where
  run := fun w0 H0 c0 w c H σ ρ Qp Q k0 R p k => h.run w0 H0 c0 w c H σ ρ _ _ k0 R p fun v d w' c' H' l o r q => by
    obtain ⟨i, rfl, q⟩ := q
    cases r
    exact ⟨i, rfl, k _ w' c' H' l o q⟩
def pSl {α : Type} (r : D → Option Int → Option Int → Om → (α → Om → Prop) → Prop) (pe : PX D) (pl pu : PX (Option Int)) : PX α := fun ρ c Q => pe ρ c fun a c1 => pl ρ c1 fun l c2 => pu ρ c2 fun u c3 => r a l u c3 Q
instance {r : V → Option Int → Option Int → Hp → VK → Prop} {pr : D → Option Int → Option Int → Om → (D → Om → Prop) → Prop} {te : TE} {tl th : TO} {pe : PX D} {pl pu : PX (Option Int)} [hr : LRS K r pr] [he : LB K te pe] [hl : LO K tl pl] [hu : LO K th pu] : LE K (tSl r te tl th) (pSl pr pe pl pu) where
  run := fun w0 H0 c0 w c H σ ρ Qp Q k0 R p k => he.run w0 H0 c0 w c H σ ρ _ _ k0 R p fun x a w1 c1 H1 l1 o1 r1 q1 =>
    hl.run w0 H0 c0 w1 c1 H1 σ ρ _ _ k0 (R.mono k0 l1 o1) q1 fun l w2 c2 H2 l2 o2 q2 =>
      hu.run w0 H0 c0 w2 c2 H2 σ ρ _ _ k0 (R.mono k0 (l1.trans R.ok l2) o2) q2 fun u w3 c3 H3 l3 o3 q3 =>
        hr.run w3 c3 H3 x a l u Qp Q o3 ((l2.trans o1 l3).rb o1 r1) q3 fun v d w4 c4 H4 l4 o4 r4 q4 => k v d w4 c4 H4 (((l1.trans R.ok l2).trans R.ok l3).trans R.ok l4) o4 r4 q4
instance {r : V → Option Int → Option Int → Hp → VK → Prop} {pr : D → Option Int → Option Int → Om → (List D → Om → Prop) → Prop} {te : TE} {tl th : TO} {pe : PX D} {pl pu : PX (Option Int)} [hr : LRSF K r pr] [he : LB K te pe] [hl : LO K tl pl] [hu : LO K th pu] : LF K (tSl r te tl th) (pSl pr pe pl pu) where
  run := fun w0 H0 c0 w c H σ ρ Qp Q k0 R p k => he.run w0 H0 c0 w c H σ ρ _ _ k0 R p fun x a w1 c1 H1 l1 o1 r1 q1 =>
    hl.run w0 H0 c0 w1 c1 H1 σ ρ _ _ k0 (R.mono k0 l1 o1) q1 fun l w2 c2 H2 l2 o2 q2 =>
      hu.run w0 H0 c0 w2 c2 H2 σ ρ _ _ k0 (R.mono k0 (l1.trans R.ok l2) o2) q2 fun u w3 c3 H3 l3 o3 q3 =>
        hr.run w3 c3 H3 x a l u Qp Q o3 ((l2.trans o1 l3).rb o1 r1) q3 fun v d w4 c4 H4 l4 o4 r4 n4 q4 => k v d w4 c4 H4 (((l1.trans R.ok l2).trans R.ok l3).trans R.ok l4) o4 r4 (fun z e => nw R.ok ((l1.trans R.ok l2).trans R.ok l3) o3 (n4 z e)) q4
def pBM (ty : D → Prop) (r : D → PR (List D) D) (po : PX D) (pa : PX (List D)) : PX D := fun ρ c Q => po ρ c fun a c1 => ty a ∧ pa ρ c1 fun ds c2 => r a ds c2 Q
theorem RB.lst {w : Wd} {H : Hp} {v : V} {xs : List D} (h : RB K w H v (.lst xs)) : ∃ a vs, v = .ref a ∧ H a = some (.lst vs) ∧ RPs K w H vs xs := by
  rcases h with h | ⟨ys, e, a, vs, rfl, z, s, e2, r⟩
  · cases h with
    | lst h r => exact ⟨_, _, rfl, cut_same _ _ h, r⟩
  · cases e
    exact ⟨a, vs, rfl, e2, r⟩
theorem RB.str {w : Wd} {H : Hp} {v : V} {x : Str} (h : RB K w H v (.str x)) : v = .str x := by
  rcases h with h | ⟨ys, e, _⟩
  · cases h
    rfl
  · cases e
theorem RB.int {w : Wd} {H : Hp} {v : V} {x : Int} (h : RB K w H v (.int x)) : v = .int x := by
  rcases h with h | ⟨ys, e, _⟩
  · cases h
    rfl
  · cases e
theorem RB.bl {w : Wd} {H : Hp} {v : V} {x : Bool} (h : RB K w H v (.bl x)) : v = .bl x := by
  rcases h with h | ⟨ys, e, _⟩
  · cases h
    rfl
  · cases e
theorem RB.non {w : Wd} {H : Hp} {v : V} (h : RB K w H v .non) : v = .non := by
  rcases h with h | ⟨ys, e, _⟩
  · cases h
    rfl
  · cases e
theorem RB.slst {w : Wd} {H : Hp} {v : V} {ns : List Int} (h : RB K w H v (.slst ns)) : ∃ a, v = .ref a ∧ SqL K H a (ns.map V.int) := by
  rcases h with h | ⟨ys, e, _⟩
  · cases h with
    | slst h =>
      refine ⟨_, rfl, ?_⟩
      rcases h with (h | ⟨o, h⟩) | h
      · exact .inl (.inl (cut_same _ _ h))
      · exact .inl (.inr ⟨o, cut_same _ _ h⟩)
      · exact .inr h
  · cases e
theorem RB.tup {w : Wd} {H : Hp} {v : V} {xs : List D} (h : RB K w H v (.tup xs)) : ∃ a vs, v = .ref a ∧ SqT K H a vs ∧ RPs K w H vs xs := by
  rcases h with h | ⟨ys, e, _⟩
  · cases h with
    | tup h r => exact ⟨_, _, rfl, sqT_of (cut_same _ _ h), r⟩
  · cases e
instance : LTy K "str" isStrD where
  run := fun w H x a r h => by
    cases a with
    | str z =>
      rw [r.str]
      exact rfl
    | _ => exact h.elim
instance : LTy K "list" isLstD where
  run := fun w H x a r h => by
    cases a with
    | lst z =>
      obtain ⟨b, vs, rfl, e, _⟩ := r.lst
      exact tyv_l e
    | _ => exact h.elim
instance {T : String} {ty : D → Prop} {r : V → List V → Hp → VK → Prop} {pr : D → PR (List D) D} {te : TE} {ta : TA} {pe : PX D} {pa : PX (List D)} [ht : LTy K T ty] [hr : LRM K r pr] [he : LB K te pe] [ha : LAB K ta pa] : LE K (tBM K T r te ta) (pBM ty pr pe pa) where
  run := fun w0 H0 c0 w c H σ ρ Qp Q k0 R p k => he.run w0 H0 c0 w c H σ ρ _ _ k0 R p fun x a w1 c1 H1 l1 o1 r1 q1 =>
    ⟨ht.run _ _ _ _ r1 q1.1, ha.run w0 H0 c0 w1 c1 H1 σ ρ _ _ k0 (R.mono k0 l1 o1) q1.2 fun xs ds w2 c2 H2 l2 o2 r2 q2 =>
      hr.run w2 c2 H2 x a xs ds Qp Q o2 (l2.rb o1 r1) r2 q2 fun v d w3 c3 H3 l3 o3 r3 q3 => k v d w3 c3 H3 ((l1.trans R.ok l2).trans R.ok l3) o3 r3 q3⟩
def pBM0 (ty : D → Prop) (r : D → PR (List D) D) (po : PX D) : PX D := fun ρ c Q => po ρ c fun a c1 => ty a ∧ r a [] c1 Q
instance {T : String} {ty : D → Prop} {r : V → List V → Hp → VK → Prop} {pr : D → PR (List D) D} {te : TE} {pe : PX D} [ht : LTy K T ty] [hr : LRM K r pr] [he : LB K te pe] : LE K (tBM0 K T r te) (pBM0 ty pr pe) where
  run := fun w0 H0 c0 w c H σ ρ Qp Q k0 R p k => he.run w0 H0 c0 w c H σ ρ _ _ k0 R p fun x a w1 c1 H1 l1 o1 r1 q1 =>
    ⟨ht.run _ _ _ _ r1 q1.1, hr.run w1 c1 H1 x a [] [] Qp Q o1 r1 .nil q1.2 fun v d w3 c3 H3 l3 o3 r3 q3 => k v d w3 c3 H3 (l1.trans R.ok l3) o3 r3 q3⟩
def pBits (p : PX D) : PX D := fun ρ c Q => p ρ c fun d c1 => ∃ i, d = .int i ∧ Q (.int (Builtin.Int.intBits i : Nat)) c1
instance {te : TE} {pe : PX D} [h : LE K te pe] : LE K (tBits te) (pBits pe) where
  run := fun w0 H0 c0 w c H σ ρ Qp Q k0 R p k => h.run w0 H0 c0 w c H σ ρ _ _ k0 R p fun v d w' c' H' l o r q => by
    obtain ⟨i, rfl, q⟩ := q
    cases r
    exact ⟨i, rfl, k _ _ w' c' H' l o (.int _) q⟩
/-! ### calls -/
abbrev PSp := List D → Om → (D → Om → Prop) → Prop
/-- the promise of a def, by data -/
def spP (K : PySem.W.Frag) (n : Nat) (psp : PSp) : Sp := fun vs H Q _ => ∃ w c ds Qp, WOk w c H ∧ RPs K w H vs ds ∧ ds.length = n ∧ psp ds c Qp ∧ ∀ v d w' c' H', Le w H w' H' → WOk w' c' H' → RP K w' H' v d → Qp d c' → Q v H'
theorem spP_len {n : Nat} {psp : PSp} {vs : List V} {H : Hp} {Q : VK} {E : XK} (h : spP K n psp vs H Q E) : vs.length = n := by
  obtain ⟨w, c, ds, Qp, _, r, l, _⟩ := h
  rw [r.len, l]
def pCal (n : Nat) (psp : PSp) (pa : PX (List D)) : PX D := fun ρ c Q => pa ρ c fun ds c1 => ds.length = n ∧ psp ds c1 Q
instance {n : Nat} {psp : PSp} {E : XK} {ta : TA} {pa : PX (List D)} [ha : LA K ta pa] : LE K (tCal (spP K n psp) E ta) (pCal n psp pa) where
  run := fun w0 H0 c0 w c H σ ρ Qp Q k0 R p k => ha.run w0 H0 c0 w c H σ ρ _ _ k0 R p fun x a w1 c1 H1 l1 o1 r1 q1 =>
    ⟨w1, c1, a, Qp, o1, r1, q1.1, q1.2, fun v d w2 c2 H2 l2 o2 r2 q2 => k v d w2 c2 H2 (l1.trans R.ok l2) o2 r2 q2⟩
/-- a property of an own class -/
def pPrp (C : Str) (psp : PSp) (pe : PX D) : PX D := fun ρ c Q => pe ρ c fun d c1 => ∃ ks ds, d = .ins C ks ds ∧ psp [d] c1 Q
instance {C : Str} {psp : PSp} {E : XK} {te : TE} {pe : PX D} [he : LE K te pe] : LE K (tPrp (He.ga K C) (spP K 1 psp) E te) (pPrp C psp pe) where
  run := fun w0 H0 c0 w c H σ ρ Qp Q k0 R p k => he.run w0 H0 c0 w c H σ ρ _ _ k0 R p fun x a w1 c1 H1 l1 o1 r1 q1 => by
    obtain ⟨ks, ds, rfl, q1⟩ := q1
    cases r1 with
    | @ins a dx _ fs _ _ h e r =>
      exact ⟨a, dx, fs, rfl, cut_same _ _ h, w1, c1, [.ins C ks ds], Qp, o1, .cons (.ins h e r) .nil, rfl, q1, fun v d w2 c2 H2 l2 o2 r2 q2 => k v d w2 c2 H2 (l1.trans R.ok l2) o2 r2 q2⟩
/-! ### statements -/
def pSeq (p q : PSs') : PSs' := fun D ρ c => p { D with nx := fun ρ' c' => q D ρ' c' } ρ c
def pNext : PSs' := fun D ρ c => D.nx ρ c
def pBreak : PSs' := fun D ρ c => D.bk ρ c
def pCont : PSs' := fun D ρ c => D.ct ρ c
def pDrop (p : PX D) : PSs' := fun D ρ c => p ρ c fun _ c1 => D.nx ρ c1
def pRet (p : PX D) : PSs' := fun D ρ c => p ρ c D.rt
def pRetN : PSs' := fun D _ c => D.rt .non c
def pIfS (t : PX Bool) (p q : PSs') : PSs' := fun D ρ c => t ρ c fun b c1 => if b = true then p D ρ c1 else q D ρ c1
def pNever : PSs' := fun _ _ _ => False
def pSet (i : Nat) (p : PX Sl) : PSs' := fun D ρ c => p ρ c fun s c1 => D.nx (ρ.set i (some s)) c1
def pAsg (p : PX D) (g : PG') : PSs' := fun D ρ c => p ρ c fun d c1 => g d ρ c1 D.nx
theorem EndsOk.on {w0 w w1 : Wd} {H0 H H1 : Hp} {Dp : PEnds} {D : Ends} (h : EndsOk K w0 H0 w H Dp D) (l : Ls w H w1 H1) : EndsOk K w0 H0 w1 H1 Dp D :=
  ⟨fun w' c' H' σ' ρ' R l' q => h.nx w' c' H' σ' ρ' R (l.trans l') q, fun w' c' H' σ' ρ' R l' q => h.bk w' c' H' σ' ρ' R (l.trans l') q, fun w' c' H' σ' ρ' R l' q => h.ct w' c' H' σ' ρ' R (l.trans l') q, h.rt⟩
instance {t u : TS} {p q : PSs'} [h : LS K t p] [h' : LS K u q] : LS K (tSeq t u) (pSeq p q) where
  run := fun w0 H0 c0 w c H σ ρ Dp D k0 R x e => h.run w0 H0 c0 w c H σ ρ _ _ k0 R x ⟨fun w' c' H' σ' ρ' R' l' q => h'.run w0 H0 c0 w' c' H' σ' ρ' Dp D k0 R' q (e.on l'), e.bk, e.ct, e.rt⟩
/-- a cut reading: left as it is -/
def pSeqB (p q : PSs') : PSs' := pSeq p q
instance {t u : TS} {p q : PSs'} [h : LS K t p] [h' : LS K u q] : LS K (tSeqB t u) (pSeqB p q) where
  run := (inferInstance : LS K (tSeq t u) (pSeq p q)).run
theorem pseq_by {p q : PSs'} {D : PEnds} {ρ : PSt} {c : Om} (I : PSt → Om → Prop) (h2 : ∀ ρ' c', I ρ' c' → q D ρ' c') (h1 : ∀ k : PSt → Om → Prop, (∀ ρ' c', I ρ' c' → k ρ' c') → p { D with nx := k } ρ c) : pSeqB p q D ρ c := h1 _ h2
instance : LS K tNext pNext where
  run := fun w0 H0 c0 w c H σ ρ Dp D k0 R x e => e.nx w c H σ ρ R .refl x
instance : LS K tBreak pBreak where
  run := fun w0 H0 c0 w c H σ ρ Dp D k0 R x e => e.bk w c H σ ρ R .refl x
instance : LS K tCont pCont where
  run := fun w0 H0 c0 w c H σ ρ Dp D k0 R x e => e.ct w c H σ ρ R .refl x
instance : LS K tNever pNever where
  run := fun w0 H0 c0 w c H σ ρ Dp D k0 R x e => x.elim
instance (priority := low) {te : TE} {pe : PX D} [h : LE K te pe] : LS K (tDrop te) (pDrop pe) where
  run := fun w0 H0 c0 w c H σ ρ Dp D k0 R x e => h.run w0 H0 c0 w c H σ ρ _ _ k0 R x fun v d w' c' H' l o r q => e.nx w' c' H' σ ρ (R.mono k0 l o) (l.ls R.ok) q
instance {te : TE} {pe : PX D} [h : LE K te pe] : LS K (tRet te) (pRet pe) where
  run := fun w0 H0 c0 w c H σ ρ Dp D k0 R x e => h.run w0 H0 c0 w c H σ ρ _ _ k0 R x fun v d w' c' H' l o r q => e.rt v d w' c' H' (Le.trans k0 R.le l) o r q
instance : LS K tRetN pRetN where
  run := fun w0 H0 c0 w c H σ ρ Dp D k0 R x e => e.rt .non .non w c H R.le R.ok .non x
instance {tt : TT} {t u : TS} {pt : PX Bool} {p q : PSs'} [ht : LT K tt pt] [h : LS K t p] [h' : LS K u q] : LS K (tIfS tt t u) (pIfS pt p q) where
  run := fun w0 H0 c0 w c H σ ρ Dp D k0 R x e => ht.run w0 H0 c0 w c H σ ρ _ _ k0 R x fun b w1 c1 H1 l1 o1 q1 => by
    cases b with
    | true =>
      rw [if_pos rfl] at q1 ⊢
      exact h.run w0 H0 c0 w1 c1 H1 σ ρ Dp D k0 (R.mono k0 l1 o1) q1 (e.on (l1.ls R.ok))
    | false =>
      rw [if_neg Bool.false_ne_true] at q1 ⊢
      exact h'.run w0 H0 c0 w1 c1 H1 σ ρ Dp D k0 (R.mono k0 l1 o1) q1 (e.on (l1.ls R.ok))
/-- a new list is not known to a name that owns -/
theorem RelS.fresh {w0 w : Wd} {H0 H : Hp} {c : Om} {σ : L2.St} {ρ : PSt} (R : RelS K w0 H0 w c H σ ρ) {v : V} (n : ∀ a, v = .ref a → H a = none) (hv : ∃ a, v = .ref a) : (∀ a, v = .ref a → H0 a = none) ∧ ∀ (j : Nat) (ys : List D), ρ[j]? = some (some (.own ys)) → σ[j]? ≠ some (some v) := by
  obtain ⟨a, rfl⟩ := hv
  have na := n a rfl
  refine ⟨fun b e => ?_, fun j ys h e => ?_⟩
  · cases e
    rcases R.le.back na with s | s
    · have s2 := R.le.s a s
      obtain ⟨u, hu, _⟩ := R.ok.br a s2
      rw [na] at hu
      cases hu
    · exact s
  · obtain ⟨_, _, _, vs, e2, _⟩ := R.own_some h e
    rw [na] at e2
    cases e2
theorem RSl.ref {w : Wd} {H : Hp} {v : V} {s : Sl} (r : RSl K w H v s) (h : s.isOwn = true) : ∃ a, v = .ref a := by
  cases s with
  | val d => cases h
  | own xs =>
    obtain ⟨a, vs, rfl, _⟩ := r
    exact ⟨a, rfl⟩
  | obj a C ks ds =>
    obtain ⟨dx, fs, rfl, _⟩ := r
    exact ⟨a, rfl⟩
instance {te : TE} {pe : PX Sl} {i : Nat} [h : LSl K te pe] : LS K (tAsg te (gName i)) (pSet i pe) where
  run := fun w0 H0 c0 w c H σ ρ Dp D k0 R x e => h.run w0 H0 c0 w c H σ ρ _ _ k0 R x fun v s w' c' H' l o r n q => by
    refine e.nx w' c' H' _ _ ((R.mono k0 l o).set r (fun hs => (R.fresh (n hs) (r.1.ref hs)).1) fun hs j ys _ g => (R.fresh (n hs) (r.1.ref hs)).2 j ys g) (l.ls R.ok) q
/-! ### targets -/
def pgName (i : Nat) : PG' := fun d ρ c Q => Q (ρ.set i (some (.val d))) c
def pgNil : PGs' := fun ds ρ c Q => ds = [] ∧ Q ρ c
def pgCons (g : PG') (h : PGs') : PGs' := fun ds ρ c Q => ∃ d r, ds = d :: r ∧ g d ρ c fun ρ' c' => h r ρ' c' Q
def pgTupl (n : Nat) (g : PGs') : PG' := fun d ρ c Q => ∃ ds, (d = .tup ds) ∧ ds.length = n ∧ g ds ρ c Q
theorem wipe_set {σ : L2.St} {i : Nat} {v : Option V} : ∀ {vs : List Nat}, i ∈ vs → wipe (σ.set i v) vs = wipe σ vs
  | j :: vs, h => by
    unfold wipe
    by_cases hi : i ∈ vs
    · rw [wipe_set hi]
    · have e : i = j := by
        rcases List.mem_cons.mp h with e | e
        · exact e
        · exact absurd e hi
      subst e
      have key : ∀ (us : List Nat) (τ : L2.St), (wipe (τ.set i v) us).set i none = (wipe τ us).set i none := fun us => by
        induction us with
        | nil =>
          intro τ
          show (τ.set i v).set i none = τ.set i none
          rw [List.set_set]
        | cons u us ih =>
          intro τ
          show ((wipe (τ.set i v) us).set u none).set i none = ((wipe τ us).set u none).set i none
          by_cases eu : u = i
          · subst eu
            rw [List.set_set, List.set_set, ih]
          · rw [List.set_comm _ _ eu, ih, List.set_comm _ _ (Ne.symm eu)]
      exact key vs σ
instance (i : Nat) : LG K (gName i) (pgName i) [i] where
  run := fun w0 H0 c0 w c H σ ρ v d Qp Q k0 R r p k => k w c H _ _ .refl (R.set (s := .val d) ⟨r, rfl⟩ (fun h => nomatch h) fun h => nomatch h) (fun vs h => wipe_set (h i List.mem_cons_self)) p
instance : LGs K gNil pgNil [] where
  run := fun w0 H0 c0 w c H σ ρ vs ds Qp Q k0 R r p k => by
    obtain ⟨rfl, q⟩ := p
    cases r
    exact ⟨rfl, k w c H σ ρ .refl R (fun _ _ => rfl) q⟩
instance {g : TG} {h : TGs} {pg : PG'} {ph : PGs'} {js ks : List Nat} [a : LG K g pg js] [b : LGs K h ph ks] : LGs K (gCons g h) (pgCons pg ph) (js ++ ks) where
  run := fun w0 H0 c0 w c H σ ρ vs ds Qp Q k0 R r p k => by
    obtain ⟨d, rr, rfl, q⟩ := p
    cases r with
    | @cons v _ us _ r1 r2 =>
      refine ⟨v, us, rfl, a.run w0 H0 c0 w c H σ ρ v d _ _ k0 R r1 q fun w1 c1 H1 σ1 ρ1 l1 R1 y1 q1 => ?_⟩
      exact b.run w0 H0 c0 w1 c1 H1 σ1 ρ1 us rr _ _ k0 R1 (l1.rps R.ok r2) q1 fun w2 c2 H2 σ2 ρ2 l2 R2 y2 q2 =>
        k w2 c2 H2 σ2 ρ2 (l1.trans R.ok l2) R2 (fun z hz => (y2 z fun j hj => hz j (List.mem_append_right _ hj)).trans (y1 z fun j hj => hz j (List.mem_append_left _ hj))) q2
instance {g : TGs} {pg : PGs'} {n : Nat} {js : List Nat} [a : LGs K g pg js] : LG K (gTup K n g) (pgTupl n pg) js where
  run := fun w0 H0 c0 w c H σ ρ v d Qp Q k0 R r p k => by
    obtain ⟨ds, rfl, hl, q⟩ := p
    cases r with
    | @tup a' xs _ h rr =>
      exact ⟨a', xs, rfl, sqT_of (cut_same _ _ h), by rw [rr.len]; exact hl, a.run w0 H0 c0 w c H σ ρ xs ds _ _ k0 R rr q k⟩
instance (priority := low) {te : TE} {pe : PX D} {g : TG} {pg : PG'} {js : List Nat} [h : LE K te pe] [hg : LG K g pg js] : LS K (tAsg te g) (pAsg pe pg) where
  run := fun w0 H0 c0 w c H σ ρ Dp D k0 R x e => h.run w0 H0 c0 w c H σ ρ _ _ k0 R x fun v d w1 c1 H1 l1 o1 r1 q1 =>
    hg.run w0 H0 c0 w1 c1 H1 σ ρ v d _ _ k0 (R.mono k0 l1 o1) r1 q1 fun w2 c2 H2 σ2 ρ2 l2 R2 _ q2 => e.nx w2 c2 H2 σ2 ρ2 R2 ((l1.trans R.ok l2).ls R.ok) q2
/-! ### several names at once -/
class LSls (K : PySem.W.Frag) (ta : TA) (pa : outParam (PX (List Sl))) : Prop where
  run : ∀ (w0 : Wd) (H0 : Hp) (c0 : Om) (w : Wd) (c : Om) (H : Hp) (σ : L2.St) (ρ : PSt) (Qp : List Sl → Om → Prop) (Q : List V → Hp → Prop), WOk w0 c0 H0 → RelS K w0 H0 w c H σ ρ → pa ρ c Qp → (∀ vs ss w' c' H', Le w H w' H' → WOk w' c' H' → Paired (fun v s => RSn K w' H' v s ∧ (s.isOwn = true → ∀ a, v = .ref a → H a = none)) vs ss → (∀ (i j : Nat) (v : V) (xs ys : List D), i ≠ j → vs[i]? = some v → ss[i]? = some (.own xs) → ss[j]? = some (.own ys) → vs[j]? ≠ some v) → Qp ss c' → Q vs H') → ta σ H Q
def pSNil : PX (List Sl) := fun _ c Q => Q [] c
def pSCons (p : PX Sl) (q : PX (List Sl)) : PX (List Sl) := fun ρ c Q => p ρ c fun d c1 => q ρ c1 fun ds c2 => Q (d :: ds) c2
theorem Paired.getR {α β : Type} {F : α → β → Prop} : ∀ {l : List α} {m : List β} {i : Nat} {b : β}, Paired F l m → m[i]? = some b → ∃ a, l[i]? = some a ∧ F a b
  | _, _, 0, _, .cons h _, e => ⟨_, rfl, by cases e; exact h⟩
  | _, _, i + 1, _, .cons _ r, e => Paired.getR (i := i) r e
theorem Paired.imp {α β : Type} {F G : α → β → Prop} : ∀ {l : List α} {m : List β}, Paired F l m → (∀ a b, F a b → G a b) → Paired G l m
  | _, _, .nil, _ => .nil
  | _, _, .cons h r, f => .cons (f _ _ h) (Paired.imp r f)
instance : LSls K tNil pSNil where
  run := fun w0 H0 c0 w c H σ ρ Qp Q k0 R p k => k [] [] w c H .refl R.ok .nil (fun _ _ _ _ _ _ h => nomatch h) p
instance {te : TE} {ta : TA} {pe : PX Sl} {pa : PX (List Sl)} [he : LSl K te pe] [ha : LSls K ta pa] : LSls K (tCons te ta) (pSCons pe pa) where
  run := fun w0 H0 c0 w c H σ ρ Qp Q k0 R p k => he.run w0 H0 c0 w c H σ ρ _ _ k0 R p fun v s w1 c1 H1 l1 o1 r1 n1 q1 =>
    ha.run w0 H0 c0 w1 c1 H1 σ ρ _ _ k0 (R.mono k0 l1 o1) q1 fun vs ss w2 c2 H2 l2 o2 r2 ap q2 => by
      have cl : ∀ (j : Nat) (ys : List D) (u : V), s.isOwn = true → ss[j]? = some (.own ys) → vs[j]? = some u → u ≠ v := fun j ys u hs hj hu e => by
        subst e
        obtain ⟨a, rfl⟩ := r1.1.ref hs
        obtain ⟨u', hu', _, n2⟩ := Paired.getR r2 hj
        rw [hu] at hu'
        cases hu'
        have := n2 rfl a rfl
        cases s with
        | val d => cases hs
        | own zs =>
          obtain ⟨b, us, eb, _, _, e2, _⟩ := r1.1
          cases eb
          rw [this] at e2
          cases e2
        | obj a C ks ds => cases r1.2
      refine k (v :: vs) (s :: ss) w2 c2 H2 (l1.trans R.ok l2) o2 (.cons ⟨⟨l2.rsl o1 r1.1, r1.2⟩, n1⟩ (Paired.imp r2 fun v' s' h => ⟨h.1, fun hs a ea => nw R.ok l1 o1 (h.2 hs a ea)⟩)) (fun i j u xs ys hij h1 h2 h3 h4 => ?_) q2
      cases i with
      | zero =>
        cases j with
        | zero => exact hij rfl
        | succ j =>
          cases h1
          cases h2
          exact cl j ys v rfl h3 h4 rfl
      | succ i =>
        cases j with
        | zero =>
          cases h4
          cases h3
          exact cl i xs _ rfl h2 h1 rfl
        | succ j => exact ap i j u xs ys (by omega) h1 h2 h3 h4
def pPar (i j : Nat) (p : PX (List Sl)) : PSs' := fun D ρ c => p ρ c fun ss c1 => ∃ a b, ss = [a, b] ∧ D.nx ((ρ.set i (some a)).set j (some b)) c1
def pPar3 (i j l : Nat) (p : PX (List Sl)) : PSs' := fun D ρ c => p ρ c fun ss c1 => ∃ a b d, ss = [a, b, d] ∧ D.nx (((ρ.set i (some a)).set j (some b)).set l (some d)) c1
end
end WP
/-! ## the pure layer, part 3: owned lists, loops, comprehensions, defs -/
namespace WP
open PySem PySem.Spec PyProof.Rows L2 WK
section
variable {K : PySem.W.Frag}
instance {ta : TA} {pa : PX (List Sl)} {i j : Nat} [h : LSls K ta pa] : LS K (tPar i j ta) (pPar i j pa) where
  run := fun w0 H0 c0 w c H σ ρ Dp D k0 R x e => h.run w0 H0 c0 w c H σ ρ _ _ k0 R x fun vs ss w1 c1 H1 l1 o1 r ap q1 => by
    obtain ⟨a, b, rfl, q1⟩ := q1
    match vs, r with
    | [v, u], .cons r1 (.cons r2 .nil) =>
      refine ⟨v, u, rfl, ?_⟩
      have R1 := (R.mono k0 l1 o1).set (i := i) r1.1 (fun hs => (R.fresh (r1.2 hs) (r1.1.1.ref hs)).1) fun hs j ys _ g => (R.fresh (r1.2 hs) (r1.1.1.ref hs)).2 j ys g
      refine e.nx w1 c1 H1 _ _ (R1.set (i := j) r2.1 (fun hs => (R.fresh (r2.2 hs) (r2.1.1.ref hs)).1) fun hs k ys nk g => ?_) (l1.ls R.ok) q1
      by_cases ek : i = k
      · subst ek
        have hi : i < ρ.length := by
          have := (List.getElem?_eq_some_iff.mp g).1
          rwa [List.length_set] at this
        rw [List.getElem?_set_self hi] at g
        cases g
        rw [List.getElem?_set_self (by rw [R.len]; exact hi)]
        intro z
        cases z
        cases b with
        | val d => cases hs
        | own zs => exact ap 0 1 _ ys zs (by decide) rfl rfl rfl rfl
        | obj a C ks ds => cases r2.1.2
      · rw [List.getElem?_set_ne ek] at g ⊢
        exact (R.fresh (r2.2 hs) (r2.1.1.ref hs)).2 k ys g
instance {ta : TA} {pa : PX (List Sl)} {i j m : Nat} [h : LSls K ta pa] : LS K (tPar3 i j m ta) (pPar3 i j m pa) where
  run := fun w0 H0 c0 w c H σ ρ Dp D k0 R x e => h.run w0 H0 c0 w c H σ ρ _ _ k0 R x fun vs ss w1 c1 H1 l1 o1 r ap q1 => by
    obtain ⟨a, b, d, rfl, q1⟩ := q1
    match vs, r with
    | [v, u, y], .cons r1 (.cons r2 (.cons r3 .nil)) =>
      refine ⟨v, u, y, rfl, ?_⟩
      have R1 := (R.mono k0 l1 o1).set (i := i) r1.1 (fun hs => (R.fresh (r1.2 hs) (r1.1.1.ref hs)).1) fun hs j ys _ g => (R.fresh (r1.2 hs) (r1.1.1.ref hs)).2 j ys g
      have own_i : ∀ (k : Nat) (ys : List WP.D), (ρ.set i (some a))[k]? = some (some (.own ys)) → i = k → (σ.set i (some v))[k]? = some (some v) ∧ a = .own ys := fun k ys g ek => by
        subst ek
        have hi : i < ρ.length := by
          have := (List.getElem?_eq_some_iff.mp g).1
          rwa [List.length_set] at this
        rw [List.getElem?_set_self hi] at g
        cases g
        exact ⟨List.getElem?_set_self (by rw [R.len]; exact hi), rfl⟩
      have R2 := R1.set (i := j) r2.1 (fun hs => (R.fresh (r2.2 hs) (r2.1.1.ref hs)).1) fun hs k ys nk g => by
        by_cases ek : i = k
        · obtain ⟨g1, rfl⟩ := own_i k ys g ek
          rw [g1]
          intro z
          cases z
          cases b with
          | val d => cases hs
          | own zs => exact ap 0 1 _ ys zs (by decide) rfl rfl rfl rfl
          | obj a C ks ds => cases r2.1.2
        · rw [List.getElem?_set_ne ek] at g ⊢
          exact (R.fresh (r2.2 hs) (r2.1.1.ref hs)).2 k ys g
      refine e.nx w1 c1 H1 _ _ (R2.set (i := m) r3.1 (fun hs => (R.fresh (r3.2 hs) (r3.1.1.ref hs)).1) fun hs k ys nk g => ?_) (l1.ls R.ok) q1
      by_cases ej : j = k
      · subst ej
        have hi : j < (ρ.set i (some a)).length := by
          have := (List.getElem?_eq_some_iff.mp g).1
          rwa [List.length_set] at this
        rw [List.getElem?_set_self hi] at g
        cases g
        rw [List.getElem?_set_self (by rw [List.length_set, R.len]; rwa [List.length_set] at hi)]
        intro z
        cases z
        cases d with
        | val d => cases hs
        | own zs => exact ap 1 2 _ ys zs (by decide) rfl rfl rfl rfl
        | obj a C ks ds => cases r3.1.2
      · rw [List.getElem?_set_ne ej] at g ⊢
        by_cases ek : i = k
        · obtain ⟨g1, rfl⟩ := own_i k ys g ek
          rw [g1]
          intro z
          cases z
          cases d with
          | val d => cases hs
          | own zs => exact ap 0 2 _ ys zs (by decide) rfl rfl rfl rfl
          | obj a C ks ds => cases r3.1.2
        · rw [List.getElem?_set_ne ek] at g ⊢
          exact (R.fresh (r3.2 hs) (r3.1.1.ref hs)).2 k ys g
/-! ### owned lists are written -/
theorem RelS.own_ref {w0 w : Wd} {H0 H : Hp} {c : Om} {σ : L2.St} {ρ : PSt} (R : RelS K w0 H0 w c H σ ρ) {i : Nat} {xs : List D} (h : ρ[i]? = some (some (.own xs))) : ∃ a, σ[i]? = some (some (.ref a)) := by
  obtain ⟨v, e, r, _⟩ := R.sl i _ h
  obtain ⟨a, _, rfl, _⟩ := r
  exact ⟨a, e⟩
def pAppend (i : Nat) (p : PX D) : PSs' := fun D ρ c => ∃ xs, ρ[i]? = some (some (.own xs)) ∧ p ρ c fun d c1 => xs.length < sizeLine ∧ D.nx (ρ.set i (some (.own (xs ++ [d])))) c1
instance (priority := high) {i : Nat} {te : TE} {pe : PX D} [h : LE K te pe] : LS K (tDrop (tBM K "list" rAppend (tVar i) (tCons te tNil))) (pAppend i pe) where
  run := fun w0 H0 c0 w c H σ ρ Dp D k0 R x e => by
    obtain ⟨xs, hx, x⟩ := x
    obtain ⟨a, ha⟩ := R.own_ref hx
    obtain ⟨_, _, _, vs, e2, r2⟩ := R.own_some hx ha
    refine ⟨.ref a, ha, tyv_l e2, h.run w0 H0 c0 w c H σ ρ _ _ k0 R x fun v d w1 c1 H1 l1 o1 r1 q1 => ?_⟩
    have R1 := R.mono k0 l1 o1
    obtain ⟨_, s1, _, us, e3, r3⟩ := R1.own_some hx ha
    obtain ⟨R2, l2⟩ := R1.put hx ha (r3.app (.cons r1 .nil))
    exact ⟨a, us, v, rfl, rfl, e3, by rw [r3.len]; exact q1.1, e.nx _ _ _ _ _ R2 ((l1.ls R.ok).trans l2) q1.2⟩
def pExtend (i : Nat) (p : PX D) : PSs' := fun D ρ c => ∃ xs, ρ[i]? = some (some (.own xs)) ∧ p ρ c fun d c1 => ∃ ys, d = .lst ys ∧ xs.length + ys.length ≤ sizeLine ∧ D.nx (ρ.set i (some (.own (xs ++ ys)))) c1
instance (priority := high) {i : Nat} {te : TE} {pe : PX D} [h : LB K te pe] : LS K (tDrop (tBM K "list" rExtend (tVar i) (tCons te tNil))) (pExtend i pe) where
  run := fun w0 H0 c0 w c H σ ρ Dp D k0 R x e => by
    obtain ⟨xs, hx, x⟩ := x
    obtain ⟨a, ha⟩ := R.own_ref hx
    obtain ⟨_, _, _, vs, e2, r2⟩ := R.own_some hx ha
    refine ⟨.ref a, ha, tyv_l e2, h.run w0 H0 c0 w c H σ ρ _ _ k0 R x fun v d w1 c1 H1 l1 o1 r1 q1 => ?_⟩
    have R1 := R.mono k0 l1 o1
    obtain ⟨_, s1, _, us, e3, r3⟩ := R1.own_some hx ha
    obtain ⟨ys, rfl, hl, q1⟩ := q1
    obtain ⟨b, zs, rfl, e4, r4⟩ := r1.lst
    obtain ⟨R2, l2⟩ := R1.put hx ha (r3.app r4)
    exact ⟨a, b, us, zs, rfl, rfl, e3, e4, by rw [r3.len, r4.len]; exact hl, e.nx _ _ _ _ _ R2 ((l1.ls R.ok).trans l2) q1⟩
def pPut (i : Nat) (p pi : PX D) : PSs' := fun D ρ c => p ρ c fun d c1 => ∃ xs, ρ[i]? = some (some (.own xs)) ∧ pi ρ c1 fun ix c2 => ∃ k j, ix = .int k ∧ ixN xs.length k = some j ∧ D.nx (ρ.set i (some (.own (xs.set j d)))) c2
instance (priority := high) {i : Nat} {te ti : TE} {pe pi : PX D} [h : LE K te pe] [h' : LB K ti pi] : LS K (tAsg te (gSub (tVar i) ti rSetL)) (pPut i pe pi) where
  run := fun w0 H0 c0 w c H σ ρ Dp D k0 R x e => h.run w0 H0 c0 w c H σ ρ _ _ k0 R x fun v d w1 c1 H1 l1 o1 r1 q1 => by
    have R1 := R.mono k0 l1 o1
    obtain ⟨xs, hx, q1⟩ := q1
    obtain ⟨a, ha⟩ := R.own_ref hx
    refine ⟨.ref a, ha, h'.run w0 H0 c0 w1 c1 H1 σ ρ _ _ k0 R1 q1 fun vi di w2 c2 H2 l2 o2 r2 q2 => ?_⟩
    obtain ⟨k, j, rfl, hj, q2⟩ := q2
    rw [r2.int]
    have R2 := R1.mono k0 l2 o2
    obtain ⟨_, s1, _, us, e3, r3⟩ := R2.own_some hx ha
    obtain ⟨R3, l3⟩ := R2.put hx ha (r3.set j (l2.rp o1 r1))
    exact ⟨a, us, k, j, rfl, rfl, e3, by rw [r3.len]; exact hj, e.nx _ _ _ _ _ R3 (((l1.trans R.ok l2).ls R.ok).trans l3) q2⟩
/-- x = xs.pop() -/
def pPop (i : Nat) (g : PG') : PSs' := fun D ρ c => ∃ xs d, ρ[i]? = some (some (.own xs)) ∧ xs[xs.length - 1]? = some d ∧ g d (ρ.set i (some (.own xs.dropLast))) c D.nx
instance (priority := high) {i : Nat} {g : TG} {pg : PG'} {js : List Nat} [hg : LG K g pg js] : LS K (tAsg (tBM0 K "list" rPop (tVar i)) g) (pPop i pg) where
  run := fun w0 H0 c0 w c H σ ρ Dp D k0 R x e => by
    obtain ⟨xs, d, hx, hd, x⟩ := x
    obtain ⟨a, ha⟩ := R.own_ref hx
    obtain ⟨_, _, _, vs, e2, r2⟩ := R.own_some hx ha
    obtain ⟨v, hv, rv⟩ := r2.getD hd
    obtain ⟨R2, l2⟩ := R.put hx ha r2.dropLast
    refine ⟨.ref a, ha, tyv_l e2, a, vs, v, rfl, rfl, e2, by rw [r2.len]; exact hv, ?_⟩
    exact hg.run w0 H0 c0 w c _ σ _ v d _ _ k0 R2 (l2.rp rv) x fun w3 c3 H3 σ3 ρ3 l3 R3 _ q3 => e.nx w3 c3 H3 σ3 ρ3 R3 (l2.trans (l3.ls R2.ok)) q3
/-- a name gives up what it owns -/
def frz (ρ : PSt) (i : Nat) : PSt := match ρ[i]? with
  | some (some (.own xs)) => ρ.set i (some (.val (.lst xs)))
  | _ => ρ
def tFrz (_ : Nat) (t : TS) : TS := t
theorem ps_frz {X : Cx} {st : Stmt} {t : TS} (i : Nat) (h : PS X st t) : PS X st (tFrz i t) := h
def pFrz (i : Nat) (p : PSs') : PSs' := fun D ρ c => p D (frz ρ i) c
instance {i : Nat} {t : TS} {p : PSs'} [h : LS K t p] : LS K (tFrz i t) (pFrz i p) where
  run := fun w0 H0 c0 w c H σ ρ Dp D k0 R x e => by
    unfold pFrz frz at x
    split at x
    · rename_i xs hx
      obtain ⟨a, ha⟩ := R.own_ref hx
      obtain ⟨R2, l2⟩ := R.frz hx ha k0
      exact h.run w0 H0 c0 _ c H σ _ Dp D k0 R2 x (e.on l2)
    · exact h.run w0 H0 c0 w c H σ ρ Dp D k0 R x e
/-! ### loops -/
def PLoop (xs : List D) (pg : PG') (pb : PSs') (D : PEnds) (ρ : PSt) (c : Om) : Prop := ∃ I : Nat → PSt → Om → Prop, I 0 ρ c ∧ (∀ i x ρ' c', xs[i]? = some x → I i ρ' c' → pg x ρ' c' fun ρ2 c2 => pb { D with nx := I (i + 1), ct := I (i + 1), bk := D.nx } ρ2 c2) ∧ ∀ ρ' c', I xs.length ρ' c' → D.nx ρ' c'
def pFor (pi : PX (List D)) (pg : PG') (pb : PSs') : PSs' := fun D ρ c => pi ρ c fun xs c1 => PLoop xs pg pb D ρ c1
instance {wi : TI} {g : TG} {tb : TS} {pi : PX (List D)} {pg : PG'} {js : List Nat} {pb : PSs'} [hi : LI K wi pi] [hg : LG K g pg js] [hb : LS K tb pb] : LS K (tFor wi g tb) (pFor pi pg pb) where
  run := fun w0 H0 c0 w c H σ ρ Dp D k0 R x e => hi.run w0 H0 c0 w c H σ ρ _ _ k0 R x fun J xs w1 c1 H1 l1 o1 wk q1 => by
    obtain ⟨I, i0, it, idn⟩ := q1
    obtain ⟨G, Y, wlk, hG, hY⟩ := wk.ex
    have R1 := R.mono k0 l1 o1
    have ls1 := l1.ls R.ok
    refine for_it wlk (fun i σ' H' => ∃ w' c' ρ', RelS K w0 H0 w' c' H' σ' ρ' ∧ Ls w1 H1 w' H' ∧ I i ρ' c') ⟨w1, c1, ρ, R1, .refl, i0⟩ (fun i σ' H' hi ⟨w', c', ρ', R', l', _⟩ => hG w' H' l') ?_ fun σ' H' ⟨w', c', ρ', R', l', h⟩ => e.nx w' c' H' σ' ρ' R' (ls1.trans l') (idn ρ' c' h)
    rintro i x σ2 H2 H3 hi ⟨w2, c2, ρ2, R2, l2, h2⟩ y
    obtain ⟨d, hd, l3, o3, r3⟩ := hY i w2 c2 H2 x H3 R2.ok l2 hi y
    have R3 := R2.mono k0 l3 o3
    refine hg.run w0 H0 c0 w2 c2 H3 σ2 ρ2 x d _ _ k0 R3 r3 (it i d ρ2 c2 hd h2) fun w4 c4 H4 σ4 ρ4 l4 R4 _ q4 => ?_
    have l14 : Ls w1 H1 w4 H4 := (l2.trans (l3.ls R2.ok)).trans (l4.ls R3.ok)
    exact hb.run w0 H0 c0 w4 c4 H4 σ4 ρ4 _ _ k0 R4 q4 ⟨fun w5 c5 H5 σ5 ρ5 R5 l5 q5 => ⟨w5, c5, ρ5, R5, l14.trans l5, q5⟩, fun w5 c5 H5 σ5 ρ5 R5 l5 q5 => e.nx w5 c5 H5 σ5 ρ5 R5 ((ls1.trans l14).trans l5) q5, fun w5 c5 H5 σ5 ρ5 R5 l5 q5 => ⟨w5, c5, ρ5, R5, l14.trans l5, q5⟩, e.rt⟩
def PWhile (pt : PX Bool) (pb : PSs') (D : PEnds) (ρ : PSt) (c : Om) : Prop := ∃ W : Nat → PSt → Om → Prop, (∃ m, W m ρ c) ∧ ∀ m ρ c, W m ρ c → pt ρ c fun b c1 => if b = true then pb { D with nx := fun ρ' c' => ∃ m', m' < m ∧ W m' ρ' c', ct := fun ρ' c' => ∃ m', m' < m ∧ W m' ρ' c', bk := D.nx } ρ c1 else D.nx ρ c1
def pWhile (pt : PX Bool) (pb : PSs') : PSs' := fun D ρ c => PWhile pt pb D ρ c
instance {tc : TT} {tb : TS} {pt : PX Bool} {pb : PSs'} [ht : LT K tc pt] [hb : LS K tb pb] : LS K (tWhile tc tb) (pWhile pt pb) where
  run := fun w0 H0 c0 w c H σ ρ Dp D k0 R x e => by
    obtain ⟨W, ⟨m0, h0⟩, hW⟩ := x
    refine ⟨fun m σ' H' => ∃ w' c' ρ', RelS K w0 H0 w' c' H' σ' ρ' ∧ Ls w H w' H' ∧ W m ρ' c', ⟨m0, w, c, ρ, R, .refl, h0⟩, ?_⟩
    rintro m σ1 H1 ⟨w1, c1, ρ1, R1, l1, h1⟩
    refine ht.run w0 H0 c0 w1 c1 H1 σ1 ρ1 _ _ k0 R1 (hW m ρ1 c1 h1) fun b w2 c2 H2 l2 o2 q2 => ?_
    have R2 := R1.mono k0 l2 o2
    have l12 := l1.trans (l2.ls R1.ok)
    cases b with
    | false =>
      rw [if_neg Bool.false_ne_true] at q2 ⊢
      exact e.nx w2 c2 H2 σ1 ρ1 R2 l12 q2
    | true =>
      rw [if_pos rfl] at q2 ⊢
      refine ⟨fun σ' H' => ∃ m', m' < m ∧ ∃ w' c' ρ', RelS K w0 H0 w' c' H' σ' ρ' ∧ Ls w H w' H' ∧ W m' ρ' c', fun σ' H' h => h, ?_⟩
      exact hb.run w0 H0 c0 w2 c2 H2 σ1 ρ1 _ _ k0 R2 q2 ⟨fun w5 c5 H5 σ5 ρ5 R5 l5 ⟨m', hm, q5⟩ => ⟨m', hm, w5, c5, ρ5, R5, l12.trans l5, q5⟩, fun w5 c5 H5 σ5 ρ5 R5 l5 q5 => e.nx w5 c5 H5 σ5 ρ5 R5 (l12.trans l5) q5, fun w5 c5 H5 σ5 ρ5 R5 l5 ⟨m', hm, q5⟩ => ⟨m', hm, w5, c5, ρ5, R5, l12.trans l5, q5⟩, e.rt⟩
/-! ### comprehensions -/
def wipeP (ρ : PSt) : List Nat → PSt
  | [] => ρ
  | v :: vs => (wipeP ρ vs).set v none
theorem wipeP_len (ρ : PSt) : ∀ vs : List Nat, (wipeP ρ vs).length = ρ.length
  | [] => rfl
  | v :: vs => by
    unfold wipeP
    rw [List.length_set, wipeP_len ρ vs]
theorem wipeP_some {ρ : PSt} {i : Nat} {s : Sl} : ∀ {vs : List Nat}, (wipeP ρ vs)[i]? = some (some s) → ρ[i]? = some (some s) ∧ i ∉ vs
  | [], h => ⟨h, by simp⟩
  | v :: vs, h => by
    unfold wipeP at h
    by_cases e : v = i
    · subst e
      by_cases hl : v < (wipeP ρ vs).length
      · rw [List.getElem?_set_self hl] at h
        cases h
      · rw [List.getElem?_eq_none (by rw [List.length_set]; omega)] at h
        cases h
    · rw [List.getElem?_set_ne e] at h
      obtain ⟨a, b⟩ := wipeP_some h
      exact ⟨a, by rw [List.mem_cons]; rintro (z | z); exact e z.symm; exact b z⟩
theorem wipe_at {σ : L2.St} {i : Nat} : ∀ {vs : List Nat}, i ∉ vs → (wipe σ vs)[i]? = σ[i]?
  | [], _ => rfl
  | v :: vs, h => by
    unfold wipe
    rw [List.getElem?_set_ne (fun e => h (by rw [e]; exact List.mem_cons_self))]
    exact wipe_at fun z => h (List.mem_cons_of_mem _ z)
theorem wipe_wipe (σ : L2.St) (vs : List Nat) : wipe (wipe σ vs) vs = wipe σ vs := by
  have key : ∀ us : List Nat, (∀ u ∈ us, u ∈ vs) → wipe (wipe σ vs) us = wipe σ vs := fun us => by
    induction us with
    | nil => intro _; rfl
    | cons u us ih =>
      intro h
      show (wipe (wipe σ vs) us).set u none = wipe σ vs
      rw [show wipe (wipe σ vs) us = wipe σ vs from ih fun x hx => h x (List.mem_cons_of_mem _ hx)]
      have hu := h u List.mem_cons_self
      clear ih h
      induction vs with
      | nil => cases hu
      | cons v vs iv =>
        show ((wipe σ vs).set v none).set u none = (wipe σ vs).set v none
        by_cases e : v = u
        · subst e
          rw [List.set_set]
        · have hm : u ∈ vs := by
            rcases List.mem_cons.mp hu with z | z
            · exact absurd z.symm e
            · exact z
          have := iv hm
          rw [List.set_comm _ _ e]
          exact congrArg (fun l => List.set l v none) this
  exact key vs fun _ h => h
theorem RelS.wipe {w0 w : Wd} {H0 H : Hp} {c : Om} {σ : L2.St} {ρ : PSt} (R : RelS K w0 H0 w c H σ ρ) (vs : List Nat) : RelS K w0 H0 w c H (wipe σ vs) (wipeP ρ vs) :=
  R.forget (by rw [wipe_length, wipeP_len, R.len]) (fun i s h => (wipeP_some h).1) fun i s h => wipe_at (wipeP_some h).2
def PComp (xs : List D) (pg : PG') (pt : PX Bool) (pe : PX D) (vs : List Nat) (ρ : PSt) (c : Om) (Q : List D → Om → Prop) : Prop := ∃ I : Nat → List D → Om → Prop, I 0 [] c ∧
  (∀ i x acc c', xs[i]? = some x → I i acc c' → pg x (wipeP ρ vs) c' fun ρ2 c2 => pt ρ2 c2 fun b c3 => if b = true then pe ρ2 c3 fun d c4 => acc.length < sizeLine ∧ I (i + 1) (acc ++ [d]) c4 else I (i + 1) acc c3) ∧ ∀ acc c', I xs.length acc c' → Q acc c'
def pLc (pi : PX (List D)) (pg : PG') (pt : PX Bool) (pe : PX D) (vs js : List Nat) : PX (List D) := fun ρ c Q => (js.all fun j => vs.contains j) = true ∧ pi ρ c fun xs c1 => PComp xs pg pt pe vs ρ c1 Q
def pYes : PX Bool := fun _ c Q => Q true c
instance : LT K tYes pYes where
  run := fun w0 H0 c0 w c H σ ρ Qp Q k0 R p k => k true w c H .refl R.ok p
instance {wi : TI} {g : TG} {tt : TT} {te : TE} {vs js : List Nat} {pi : PX (List D)} {pg : PG'} {pt : PX Bool} {pe : PX D} [hi : LIB K wi pi] [hg : LG K g pg js] [ht : LT K tt pt] [he : LE K te pe] : LF K (tLc wi g tt te vs) (pLc pi pg pt pe vs js) where
  run := fun w0 H0 c0 w c H σ ρ Qp Q k0 R x k => by
    obtain ⟨hjs, x⟩ := x
    refine hi.run w0 H0 c0 w c H σ ρ _ _ k0 R x fun J xs w1 c1 H1 l1 o1 wk q1 => ?_
    obtain ⟨I, i0, it, idn⟩ := q1
    obtain ⟨G, Y, wlk, hG, hY⟩ := wk.ex
    have hsub : ∀ j ∈ js, j ∈ vs := fun j hj => by
      have := List.all_eq_true.mp hjs j hj
      exact List.contains_iff_mem.mp this
    refine comp_w wlk (fun D i H' => ∃ w' c' ds, WOk w' c' H' ∧ Le w1 H1 w' H' ∧ Owns K w' H' (.ref D) ds ∧ I i ds c') ?_ ?_ ?_ ?_
    · intro D nD
      obtain ⟨l2, o2, r2⟩ := owns_new (K := K) (vs := []) (ds := []) o1 nD .nil
      exact ⟨_, c1, [], o2, l2, r2, i0⟩
    · rintro D i H' nD hi ⟨w', c', ds, o', l', _⟩
      exact hG w' H' l'
    · rintro D i x H2 H3 nD hi ⟨w2, c2, ds, o2, l2, ow2, h2⟩ y
      obtain ⟨d, hd, l3, o3, r3⟩ := hY i w2 c2 H2 x H3 o2 l2 hi y
      have R3 := ((R.mono k0 l1 o1).mono k0 (l2.trans o1 l3) o3).wipe vs
      refine hg.run w0 H0 c0 w2 c2 H3 _ _ x d _ _ k0 R3 r3 (it i d ds c2 hd h2) fun w4 c4 H4 σ4 ρ4 l4 R4 y4 q4 => ⟨(y4 vs hsub).trans (wipe_wipe σ vs), ?_⟩
      refine ht.run w0 H0 c0 w4 c4 H4 σ4 ρ4 _ _ k0 R4 q4 fun b w5 c5 H5 l5 o5 q5 => ?_
      have l25 : Le w2 H2 w5 H5 := (l3.trans o2 l4).trans o2 l5
      cases b with
      | false =>
        rw [if_neg Bool.false_ne_true] at q5 ⊢
        exact ⟨w5, c5, ds, o5, l2.trans o1 l25, l25.owns o2 ow2, q5⟩
      | true =>
        rw [if_pos rfl] at q5 ⊢
        refine he.run w0 H0 c0 w5 c5 H5 σ4 ρ4 _ _ k0 (R4.mono k0 l5 o5) q5 fun v d' w6 c6 H6 l6 o6 r6 q6 => ?_
        have l26 : Le w2 H2 w6 H6 := l25.trans o2 l6
        obtain ⟨a, us, ea, z6, s6, e6, r6s⟩ := l26.owns o2 ow2
        cases ea
        refine ⟨us, e6, by rw [r6s.len]; exact q6.1, w6, c6, _, o6.put s6, (l2.trans o1 l26).put nD, ⟨D, us ++ [v], rfl, z6, s6, upd_same, ?_⟩, q6.2⟩
        unfold RPs
        rw [cut_upd z6]
        exact r6s.app (.cons r6 .nil)
    · rintro D H' nD ⟨w', c', ds, o', l', ow, h⟩
      exact k (.ref D) ds w' c' H' (l1.trans R.ok l') o' ow (fun a e => by cases e; exact nw R.ok l1 o1 nD) (idn ds c' h)
/-! ### what is walked -/
theorem walks_at {R : Wd → Hp → Prop} {J : It} {G : Hp → Prop} {vs : List V} {ds : List D} (hw : Walk J vs.length G (YAt vs)) (hG : ∀ w H, R w H → G H) (hr : ∀ w H, R w H → RPs K w H vs ds) (hl : vs.length = ds.length) : Walks K R J ds :=
  ⟨G, YAt vs, by rw [← hl]; exact hw, hG, fun i w c H x H' k r hi y => by
    obtain ⟨rfl, hx⟩ := y
    obtain ⟨d, hd, rd⟩ := (hr w _ r).get hx
    exact ⟨d, hd, .refl, k, rd⟩⟩
theorem walks_fn {R : Wd → Hp → Prop} {J : It} {n : Nat} {f : Nat → V} {g : Nat → D} (hw : Walk J n (fun _ => True) (YFn f)) (hr : ∀ i w H, RP K w H (f i) (g i)) : Walks K R J ((List.range n).map g) :=
  ⟨_, YFn f, by rw [List.length_map, List.length_range]; exact hw, fun _ _ _ => trivial, fun i w c H x H' k r hi y => by
    obtain ⟨rfl, rfl⟩ := y
    rw [List.length_map, List.length_range] at hi
    exact ⟨g i, by rw [List.getElem?_map, List.getElem?_range hi]; rfl, .refl, k, hr i w _⟩⟩
theorem walks_pair {R : Wd → Hp → Prop} {J : It} {G : Hp → Prop} {n : Nat} {f g : Nat → Option V} {ds : List D} (hw : Walk J n G (YPair f g)) (hG : ∀ w H, R w H → G H) (hl : ds.length = n)
    (hr : ∀ i w H x y, R w H → f i = some x → g i = some y → ∃ a b, ds[i]? = some (.tup [a, b]) ∧ RP K w H x a ∧ RP K w H y b) : Walks K R J ds :=
  ⟨G, YPair f g, by rw [hl]; exact hw, hG, fun i w c H v H' k r hi y => by
    obtain ⟨T, x, z, rfl, nT, rfl, fx, gz⟩ := y
    obtain ⟨a, b, hd, ra, rb⟩ := hr i w H x z r fx gz
    have l : Le w H w (upd H T (.tup [x, z])) := .new nT
    exact ⟨_, hd, l, k.new nT, .tup (by rw [cut_at (k.nz nT)]; exact upd_same) (.cons (l.rp k ra) (.cons (l.rp k rb) .nil))⟩⟩
/-- a loop's walk over what is shown; a comprehension's over what may be looked at -/
instance (priority := low) libOf {wi : TI} {pi : PX (List D)} [h : LI K wi pi] : LIB K wi pi where
  run := fun w0 H0 c0 w c H σ ρ Qp R k0 RR x k => h.run w0 H0 c0 w c H σ ρ Qp R k0 RR x fun J xs w' c' H' l o wk q => k J xs w' c' H' l o (wk.wk fun w2 H2 l2 => l2.ls o) q
def pItL (p : PX D) : PX (List D) := fun ρ c Q => p ρ c fun d c1 => ∃ xs, d = .lst xs ∧ Q xs c1
def pItT (p : PX D) : PX (List D) := fun ρ c Q => p ρ c fun d c1 => ∃ xs, d = .tup xs ∧ Q xs c1
instance {te : TE} {pe : PX D} [h : LE K te pe] : LI K (iList K te) (pItL pe) where
  run := fun w0 H0 c0 w c H σ ρ Qp R k0 RR x k => h.run w0 H0 c0 w c H σ ρ _ _ k0 RR x fun v d w1 c1 H1 l1 o1 r1 q1 => by
    obtain ⟨xs, rfl, q1⟩ := q1
    cases r1 with
    | @lst a vs _ e r =>
      refine ⟨a, rfl, ⟨vs, sqL_of (cut_same _ _ e)⟩, k _ xs w1 c1 H1 l1 o1 (walks_at (G := fun H => SqL K H a vs) walk_list (fun w H l => sqL_of (cut_same _ _ (l.c _ _ e))) (fun w H l => l.rps r) r.len) q1⟩
instance (priority := high) {te : TE} {pe : PX D} [h : LB K te pe] : LIB K (iList K te) (pItL pe) where
  run := fun w0 H0 c0 w c H σ ρ Qp R k0 RR x k => h.run w0 H0 c0 w c H σ ρ _ _ k0 RR x fun v d w1 c1 H1 l1 o1 r1 q1 => by
    obtain ⟨xs, rfl, q1⟩ := q1
    rcases r1 with r1 | ⟨ys, e, a, vs, rfl, z, s, e2, r2⟩
    · cases r1 with
      | @lst a vs _ e r =>
        exact ⟨a, rfl, ⟨vs, sqL_of (cut_same _ _ e)⟩, k _ xs w1 c1 H1 l1 o1 (walks_at (G := fun H => SqL K H a vs) walk_list (fun w H l => sqL_of (cut_same _ _ ((l.ls o1).c _ _ e))) (fun w H l => l.rps o1 r) r.len) q1⟩
    · cases e
      exact ⟨a, rfl, ⟨vs, sqL_of e2⟩, k _ xs w1 c1 H1 l1 o1 (walks_at (G := fun H => SqL K H a vs) walk_list (fun w H l => sqL_of (l.ex a _ s e2)) (fun w H l => l.rps o1 r2) r2.len) q1⟩
instance {te : TE} {pe : PX D} [h : LE K te pe] : LI K (iTup K te) (pItT pe) where
  run := fun w0 H0 c0 w c H σ ρ Qp R k0 RR x k => h.run w0 H0 c0 w c H σ ρ _ _ k0 RR x fun v d w1 c1 H1 l1 o1 r1 q1 => by
    obtain ⟨xs, rfl, q1⟩ := q1
    cases r1 with
    | @tup a vs _ e r =>
      exact ⟨a, rfl, ⟨vs, sqT_of (cut_same _ _ e)⟩, k _ xs w1 c1 H1 l1 o1 (walks_at (G := fun H => SqT K H a vs) walk_tup (fun w H l => sqT_of (cut_same _ _ (l.c _ _ e))) (fun w H l => l.rps r) r.len) q1⟩
def rangeD (lo : Int) (n : Nat) : List D := (List.range n).map fun i => .int (lo + (i : Nat))
def pRng1 (p : PX (List D)) : PX (List D) := fun ρ c Q => p ρ c fun ds c1 => ∃ j : Int, ds = [.int j] ∧ -(2 ^ 62) ≤ j ∧ j < 2 ^ 62 ∧ Q (rangeD 0 j.toNat) c1
def pRng2 (p : PX (List D)) : PX (List D) := fun ρ c Q => p ρ c fun ds c1 => ∃ i j : Int, ds = [.int i, .int j] ∧ (-(2 ^ 62) ≤ i ∧ i < 2 ^ 62 ∧ -(2 ^ 62) ≤ j ∧ j < 2 ^ 62) ∧ Q (rangeD i (j - i).toNat) c1
def pRng3 (p : PX (List D)) : PX (List D) := fun ρ c Q => p ρ c fun ds c1 => ∃ (i j s : Int) (n : Nat), ds = [.int i, .int j, .int s] ∧ RgC i j s n ∧ Q ((List.range n).map fun k => .int (i + (k : Nat) * s)) c1
theorem RPs.ints1 {w : Wd} {H : Hp} {vs : List V} {i : Int} (h : RPs K w H vs [.int i]) : vs = [.int i] := by
  cases h with
  | cons a b =>
    cases a
    cases b
    rfl
theorem RPs.ints2 {w : Wd} {H : Hp} {vs : List V} {i j : Int} (h : RPs K w H vs [.int i, .int j]) : vs = [.int i, .int j] := by
  cases h with
  | cons a b =>
    cases a
    rw [RPs.ints1 b]
theorem RPs.ints3 {w : Wd} {H : Hp} {vs : List V} {i j k : Int} (h : RPs K w H vs [.int i, .int j, .int k]) : vs = [.int i, .int j, .int k] := by
  cases h with
  | cons a b =>
    cases a
    rw [RPs.ints2 b]
instance {ta : TA} {pa : PX (List D)} [h : LA K ta pa] : LI K (iRng1 ta) (pRng1 pa) where
  run := fun w0 H0 c0 w c H σ ρ Qp R k0 RR x k => h.run w0 H0 c0 w c H σ ρ _ _ k0 RR x fun v d w1 c1 H1 l1 o1 r1 q1 => by
    obtain ⟨j, rfl, a, b, q1⟩ := q1
    exact ⟨j, RPs.ints1 r1, a, b, k _ _ w1 c1 H1 l1 o1 (walks_fn walk_range fun i w H => .int _) q1⟩
instance {ta : TA} {pa : PX (List D)} [h : LA K ta pa] : LI K (iRng2 ta) (pRng2 pa) where
  run := fun w0 H0 c0 w c H σ ρ Qp R k0 RR x k => h.run w0 H0 c0 w c H σ ρ _ _ k0 RR x fun v d w1 c1 H1 l1 o1 r1 q1 => by
    obtain ⟨i, j, rfl, a, q1⟩ := q1
    exact ⟨i, j, RPs.ints2 r1, a, k _ _ w1 c1 H1 l1 o1 (walks_fn walk_range fun i w H => .int _) q1⟩
instance {ta : TA} {pa : PX (List D)} [h : LA K ta pa] : LI K (iRng3 ta) (pRng3 pa) where
  run := fun w0 H0 c0 w c H σ ρ Qp R k0 RR x k => h.run w0 H0 c0 w c H σ ρ _ _ k0 RR x fun v d w1 c1 H1 l1 o1 r1 q1 => by
    obtain ⟨i, j, s, n, rfl, a, q1⟩ := q1
    exact ⟨i, j, s, n, RPs.ints3 r1, a, k _ _ w1 c1 H1 l1 o1 (walks_fn walk_rangeC fun i w H => .int _) q1⟩
def pItS (p : PX D) : PX (List D) := fun ρ c Q => p ρ c fun d c1 => ∃ x, d = .str x ∧ Q (x.cps.toList.map fun c => .str ⟨#[c]⟩) c1
instance {te : TE} {pe : PX D} [h : LE K te pe] : LI K (iStr te) (pItS pe) where
  run := fun w0 H0 c0 w c H σ ρ Qp R k0 RR x k => h.run w0 H0 c0 w c H σ ρ _ _ k0 RR x fun v d w1 c1 H1 l1 o1 r1 q1 => by
    obtain ⟨z, rfl, q1⟩ := q1
    cases r1
    refine ⟨z, rfl, k _ _ w1 c1 H1 l1 o1 ⟨_, _, by rw [List.length_map]; exact walk_str, fun _ _ _ => trivial, fun i w c H x H' k r hi y => ?_⟩ q1⟩
    obtain ⟨rfl, cc, hc, rfl⟩ := y
    have hc' : z.cps.toList[i]? = some cc := by rw [Array.getElem?_toList]; exact hc
    exact ⟨_, by rw [List.getElem?_map, hc']; rfl, .refl, k, .str _⟩
/-- zip: pairs -/
def zipD (xs ys : List D) : List D := (List.zip xs ys).map fun p => .tup [p.1, p.2]
def seqD : D → Option (List D)
  | .lst xs => some xs
  | .tup xs => some xs
  | _ => none
def pZip (ka kb : D → Option (List D)) (p : PX (List D)) : PX (List D) := fun ρ c Q => p ρ c fun ds c1 => ∃ a b xs ys, ds = [a, b] ∧ ka a = some xs ∧ kb b = some ys ∧ Q (zipD xs ys) c1
def lstD : D → Option (List D)
  | .lst xs => some xs
  | _ => none
def tupD : D → Option (List D)
  | .tup xs => some xs
  | _ => none
def pEnum (ka : D → Option (List D)) (p : PX (List D)) : PX (List D) := fun ρ c Q => p ρ c fun ds c1 => ∃ a xs, ds = [a] ∧ ka a = some xs ∧ Q (zipD (rangeD 0 xs.length) xs) c1
end
end WP
/-! ## the pure layer, part 4: operators, built-ins, methods -/
namespace WP
open PySem PySem.Spec PyProof.Rows L2 WK
section
variable {K : PySem.W.Frag}
/-- a scalar, back -/
def dV : D → V
  | .non => .non
  | .bl b => .bl b
  | .int i => .int i
  | .str x => .str x
  | _ => .ty ""
def flatD : D → Bool
  | .non => true
  | .bl _ => true
  | .int _ => true
  | .str _ => true
  | _ => false
theorem RB.flat {w : Wd} {H : Hp} {v : V} {d : D} (h : RB K w H v d) (f : flatD d = true) : v = dV d := by
  cases d with
  | non => exact h.non
  | bl b => exact h.bl
  | int i => exact h.int
  | str x => exact h.str
  | _ => cases f
theorem rp_dV {w : Wd} {H : Hp} {d : D} (f : flatD d = true) : RP K w H (dV d) d := by
  cases d with
  | non => exact .non
  | bl b => exact .bl b
  | int i => exact .int i
  | str x => exact .str x
  | _ => cases f
/-- ints -/
def pII (C : Int → Int → Prop) (f : Int → Int → D) : D → PR D D := fun a b c Q => ∃ i j, a = .int i ∧ b = .int j ∧ C i j ∧ Q (f i j) c
def pII0 (f : Int → Int → D) : D → PR D D := fun a b c Q => ∃ i j, a = .int i ∧ b = .int j ∧ Q (f i j) c
instance {C : Int → Int → Prop} {f : Int → Int → Int} : LR2 K (rI C fun i j => .int (f i j)) (pII C fun i j => .int (f i j)) where
  run := fun w c H x y a b Qp Q o ra rb q k => by
    obtain ⟨i, j, rfl, rfl, h, q⟩ := q
    exact ⟨i, j, ra.int, rb.int, h, k _ _ w c H .refl o (.int _) q⟩
instance {f : Int → Int → Int} : LR2 K (rI0 fun i j => .int (f i j)) (pII0 fun i j => .int (f i j)) where
  run := fun w c H x y a b Qp Q o ra rb q k => by
    obtain ⟨i, j, rfl, rfl, q⟩ := q
    exact ⟨i, j, ra.int, rb.int, k _ _ w c H .refl o (.int _) q⟩
instance {f : Int → Int → Bool} : LR2 K (rI0 fun i j => .bl (f i j)) (pII0 fun i j => .bl (f i j)) where
  run := fun w c H x y a b Qp Q o ra rb q k => by
    obtain ⟨i, j, rfl, rfl, q⟩ := q
    exact ⟨i, j, ra.int, rb.int, k _ _ w c H .refl o (.bl _) q⟩
def pShr : D → PR D D := fun a b c Q => ∃ (i : Int) (k : Nat), a = .int i ∧ b = .int (k : Int) ∧ Q (.int (i / 2 ^ k)) c
instance : LR2 K (fun x y H Q => ∃ (i : Int) (k : Nat), x = .int i ∧ y = .int (k : Int) ∧ Q (.int (i / 2 ^ k)) H) pShr where
  run := fun w c H x y a b Qp Q o ra rb q k => by
    obtain ⟨i, j, rfl, rfl, q⟩ := q
    exact ⟨i, j, ra.int, rb.int, k _ _ w c H .refl o (.int _) q⟩
def pShl : D → PR D D := fun a b c Q => ∃ (i : Int) (k : Nat), a = .int i ∧ b = .int (k : Int) ∧ CShl i (k : Int) ∧ Q (.int (i * 2 ^ k)) c
instance : LR2 K (fun x y H Q => ∃ (i : Int) (k : Nat), x = .int i ∧ y = .int (k : Int) ∧ CShl i (k : Int) ∧ Q (.int (i * 2 ^ k)) H) pShl where
  run := fun w c H x y a b Qp Q o ra rb q k => by
    obtain ⟨i, j, rfl, rfl, h, q⟩ := q
    exact ⟨i, j, ra.int, rb.int, h, k _ _ w c H .refl o (.int _) q⟩
def pShl1 : D → PR D D := fun a b c Q => ∃ k : Nat, a = .int 1 ∧ b = .int (k : Int) ∧ k ≤ 134217727 ∧ Q (.int (2 ^ k)) c
instance : LR2 K (fun x y H Q => ∃ k : Nat, x = .int 1 ∧ y = .int (k : Int) ∧ k ≤ 134217727 ∧ Q (.int (2 ^ k)) H) pShl1 where
  run := fun w c H x y a b Qp Q o ra rb q k => by
    obtain ⟨j, rfl, rfl, h, q⟩ := q
    exact ⟨j, ra.int, rb.int, h, k _ _ w c H .refl o (.int _) q⟩
def pU (f : Int → Int) : PR D D := fun a c Q => ∃ i, a = .int i ∧ Q (.int (f i)) c
instance {f : Int → Int} : LR1 K (rU fun i => .int (f i)) (pU f) where
  run := fun w c H x a Qp Q o ra q k => by
    obtain ⟨i, rfl, q⟩ := q
    exact ⟨i, ra.int, k _ _ w c H .refl o (.int _) q⟩
/-- scalars -/
theorem scal_flat {a : D} {v : V} (h : scal (dV a) v = true) : flatD a = true := by
  cases a with
  | non => rfl
  | bl b => rfl
  | int i => rfl
  | str x => rfl
  | _ => cases v <;> cases h
theorem scal_flat' {a : D} {v : V} (h : scal v (dV a) = true) : flatD a = true := by
  cases a with
  | non => rfl
  | bl b => rfl
  | int i => rfl
  | str x => rfl
  | _ => cases v <;> cases h
def pEq : D → PR D D := fun a b c Q => scal (dV a) (dV b) = true ∧ Q (.bl (decide (dV a = dV b))) c
def pNe : D → PR D D := fun a b c Q => scal (dV a) (dV b) = true ∧ Q (.bl (!decide (dV a = dV b))) c
instance : LR2 K rEq pEq where
  run := fun w c H x y a b Qp Q o ra rb q k => by
    obtain ⟨h, q⟩ := q
    rw [ra.flat (scal_flat h), rb.flat (scal_flat' h)]
    exact ⟨h, k _ _ w c H .refl o (.bl _) q⟩
instance : LR2 K rNe pNe where
  run := fun w c H x y a b Qp Q o ra rb q k => by
    obtain ⟨h, q⟩ := q
    rw [ra.flat (scal_flat h), rb.flat (scal_flat' h)]
    exact ⟨h, k _ _ w c H .refl o (.bl _) q⟩
def isNonD : D → Bool
  | .non => true
  | _ => false
theorem RB.isNon {w : Wd} {H : Hp} {v : V} {d : D} (h : RB K w H v d) : decide (v = .non) = isNonD d := by
  rcases h with h | ⟨xs, rfl, a, vs, rfl, _⟩
  · cases h <;> simp [isNonD]
  · simp [isNonD]
def pIsN : D → PR D D := fun a b c Q => b = .non ∧ Q (.bl (isNonD a)) c
def pNotN : D → PR D D := fun a b c Q => b = .non ∧ Q (.bl (!isNonD a)) c
instance : LR2 K (fun x y H Q => y = .non ∧ Q (.bl (decide (x = .non))) H) pIsN where
  run := fun w c H x y a b Qp Q o ra rb q k => by
    obtain ⟨rfl, q⟩ := q
    exact ⟨rb.non, k _ _ w c H .refl o (by rw [ra.isNon]; exact .bl _) q⟩
instance : LR2 K (fun x y H Q => y = .non ∧ Q (.bl (!decide (x = .non))) H) pNotN where
  run := fun w c H x y a b Qp Q o ra rb q k => by
    obtain ⟨rfl, q⟩ := q
    exact ⟨rb.non, k _ _ w c H .refl o (by rw [ra.isNon]; exact .bl _) q⟩
def pIsB : D → PR D D := fun x y c Q => ∃ a b : Bool, x = .bl a ∧ y = .bl b ∧ Q (.bl (decide (a = b))) c
instance : LR2 K rIsB pIsB where
  run := fun w c H x y a b Qp Q o ra rb q k => by
    obtain ⟨i, j, rfl, rfl, q⟩ := q
    exact ⟨i, j, ra.bl, rb.bl, k _ _ w c H .refl o (.bl _) q⟩
/-! texts -/
def pAddS : D → PR D D := fun x y c Q => ∃ i j, x = .str i ∧ y = .str j ∧ i.length + j.length ≤ sizeLine ∧ Q (.str (i ++ j)) c
instance : LR2 K (fun x y H Q => ∃ i j, x = .str i ∧ y = .str j ∧ i.length + j.length ≤ sizeLine ∧ Q (.str (i ++ j)) H) pAddS where
  run := fun w c H x y a b Qp Q o ra rb q k => by
    obtain ⟨i, j, rfl, rfl, h, q⟩ := q
    exact ⟨i, j, ra.str, rb.str, h, k _ _ w c H .refl o (.str _) q⟩
def pMulS : D → PR D D := fun x y c Q => ∃ z n, x = .str z ∧ y = .int n ∧ MulOk z n ∧ Q (.str (Txt.mul z n)) c
instance : LR2 K rMulS pMulS where
  run := fun w c H x y a b Qp Q o ra rb q k => by
    obtain ⟨i, j, rfl, rfl, h, q⟩ := q
    exact ⟨i, j, ra.str, rb.int, h, k _ _ w c H .refl o (.str _) q⟩
def pInS : D → PR D D := fun x y c Q => ∃ (s : Nat) (z : Str), x = .str ⟨#[s]⟩ ∧ y = .str z ∧ Q (.bl (decide (s ∈ z.cps.toList))) c
def pNotInS : D → PR D D := fun x y c Q => ∃ (s : Nat) (z : Str), x = .str ⟨#[s]⟩ ∧ y = .str z ∧ Q (.bl (!decide (s ∈ z.cps.toList))) c
instance : LR2 K (fun x y H Q => ∃ (c : Nat) (z : Str), x = .str ⟨#[c]⟩ ∧ y = .str z ∧ Q (.bl (decide (c ∈ z.cps.toList))) H) pInS where
  run := fun w c H x y a b Qp Q o ra rb q k => by
    obtain ⟨i, j, rfl, rfl, q⟩ := q
    exact ⟨i, j, ra.str, rb.str, k _ _ w c H .refl o (.bl _) q⟩
instance : LR2 K (fun x y H Q => ∃ (c : Nat) (z : Str), x = .str ⟨#[c]⟩ ∧ y = .str z ∧ Q (.bl (!decide (c ∈ z.cps.toList))) H) pNotInS where
  run := fun w c H x y a b Qp Q o ra rb q k => by
    obtain ⟨i, j, rfl, rfl, q⟩ := q
    exact ⟨i, j, ra.str, rb.str, k _ _ w c H .refl o (.bl _) q⟩
def pLtS (f : Str → Str → Bool) : D → PR D D := fun x y c Q => ∃ i j, x = .str i ∧ y = .str j ∧ Q (.bl (f i j)) c
instance {f : Str → Str → Bool} : LR2 K (fun x y H Q => ∃ i j, x = .str i ∧ y = .str j ∧ Q (.bl (f i j)) H) (pLtS f) where
  run := fun w c H x y a b Qp Q o ra rb q k => by
    obtain ⟨i, j, rfl, rfl, q⟩ := q
    exact ⟨i, j, ra.str, rb.str, k _ _ w c H .refl o (.bl _) q⟩
/-! members -/
theorem RPs.scal {w : Wd} {H : Hp} : ∀ {vs : List V} {ds : List D}, RPs K w H vs ds → ds.all flatD = true → vs = ds.map dV
  | _, _, .nil, _ => rfl
  | _, _, .cons h r, f => by
    rw [List.all_cons, Bool.and_eq_true] at f
    rw [List.map_cons, ← RPs.scal r f.2, ← RB.flat (.inl h) f.1]
theorem flatV_dV {d : D} (h : flatD d = true) : flatV (dV d) = true := by
  cases d with
  | non => rfl
  | bl b => rfl
  | int i => rfl
  | str x => rfl
  | _ => cases h
theorem flatV_all {ds : List D} (h : ds.all flatD = true) : (ds.map dV).all flatV = true := by
  rw [List.all_map]
  exact List.all_eq_true.mpr fun x hx => flatV_dV (List.all_eq_true.mp h x hx)
def inD (a : D) (xs : List D) : Bool := inV (dV a) (xs.map dV)
def pIn (neg : Bool) : D → PR D D := fun a b c Q => ∃ xs, seqD b = some xs ∧ flatD a = true ∧ xs.all flatD = true ∧ Q (.bl (if neg then !inD a xs else inD a xs)) c
instance {neg : Bool} : LR2 K (rIn K neg) (pIn neg) where
  run := fun w c H x y a b Qp Q o ra rb q k => by
    obtain ⟨xs, hb, fa, fx, q⟩ := q
    rw [ra.flat fa]
    cases b with
    | lst ys =>
      cases hb
      obtain ⟨p, vs, rfl, e, r⟩ := rb.lst
      have := RPs.scal r fx
      subst this
      exact ⟨p, _, rfl, .inl (sqL_of e), flatV_dV fa, flatV_all fx, k _ _ w c H .refl o (.bl _) q⟩
    | tup ys =>
      cases hb
      obtain ⟨p, vs, rfl, e, r⟩ := rb.tup
      have := RPs.scal r fx
      subst this
      exact ⟨p, _, rfl, .inr e, flatV_dV fa, flatV_all fx, k _ _ w c H .refl o (.bl _) q⟩
    | _ => cases hb
/-! items -/
theorem atI_rep {w : Wd} {H : Hp} {vs : List V} {ds : List D} {i : Int} {d : D} (r : RPs K w H vs ds) (h : atI ds i = some d) : ∃ v, atI vs i = some v ∧ RP K w H v d := by
  unfold atI at h ⊢
  rw [r.len]
  cases e : ixN ds.length i with
  | none =>
    rw [e] at h
    cases h
  | some j =>
    rw [e] at h
    obtain ⟨v, hv, rv⟩ := r.getD h
    exact ⟨v, hv, rv⟩
def pIxL : D → PR D D := fun a b c Q => ∃ xs i d, a = .lst xs ∧ b = .int i ∧ atI xs i = some d ∧ Q d c
def pIxT : D → PR D D := fun a b c Q => ∃ xs i d, a = .tup xs ∧ b = .int i ∧ atI xs i = some d ∧ Q d c
def pIxS : D → PR D D := fun a b c Q => ∃ z i s, a = .str z ∧ b = .int i ∧ z.length ≤ sizeLine ∧ atI z.cps.toList i = some s ∧ Q (.str ⟨#[s]⟩) c
instance : LR2 K (rIxL K) pIxL where
  run := fun w c H x y a b Qp Q o ra rb q k => by
    obtain ⟨xs, i, d, rfl, rfl, h, q⟩ := q
    obtain ⟨p, vs, rfl, e, r⟩ := ra.lst
    obtain ⟨v, hv, rv⟩ := atI_rep r h
    exact ⟨p, vs, i, v, rfl, rb.int, sqL_of e, hv, k v d w c H .refl o rv q⟩
instance : LR2 K (rIxT K) pIxT where
  run := fun w c H x y a b Qp Q o ra rb q k => by
    obtain ⟨xs, i, d, rfl, rfl, h, q⟩ := q
    obtain ⟨p, vs, rfl, e, r⟩ := ra.tup
    obtain ⟨v, hv, rv⟩ := atI_rep r h
    exact ⟨p, vs, i, v, rfl, rb.int, e, hv, k v d w c H .refl o rv q⟩
instance : LR2 K rIxS pIxS where
  run := fun w c H x y a b Qp Q o ra rb q k => by
    obtain ⟨z, i, s, rfl, rfl, h, h2, q⟩ := q
    exact ⟨z, i, s, ra.str, rb.int, h, h2, k _ _ w c H .refl o (.str _) q⟩
/-! slices -/
def cutP (xs : List D) (lo hi : Option Int) : List D := (xs.drop (HT.sIx xs.length 0 lo)).take (HT.sIx xs.length xs.length hi - HT.sIx xs.length 0 lo)
theorem cut_rep {w : Wd} {H : Hp} {vs : List V} {ds : List D} {lo hi : Option Int} (r : RPs K w H vs ds) : RPs K w H (cutV vs lo hi) (cutP ds lo hi) := by
  unfold cutV cutP
  rw [r.len]
  exact (r.drop _).take _
def pSlL : D → Option Int → Option Int → Om → (List D → Om → Prop) → Prop := fun a l u c Q => ∃ xs, a = .lst xs ∧ Q (cutP xs l u) c
def pSlT : D → Option Int → Option Int → Om → (D → Om → Prop) → Prop := fun a l u c Q => ∃ xs, a = .tup xs ∧ ¬ (HT.sIx xs.length 0 l = 0 ∧ HT.sIx xs.length xs.length u = xs.length) ∧ Q (.tup (cutP xs l u)) c
def pSlA : D → Option Int → Option Int → Om → (D → Om → Prop) → Prop := fun a l u c Q => ∃ xs, a = .tup xs ∧ Q (.tup (cutP xs l u)) c
def pSlS : D → Option Int → Option Int → Om → (D → Om → Prop) → Prop := fun a l u c Q => ∃ z, a = .str z ∧ z.length ≤ sizeLine ∧ Q (.str (cutS z l u)) c
instance : LRSF K (rSlL K) pSlL where
  run := fun w c H x a l u Qp Q o ra q k => by
    obtain ⟨xs, rfl, q⟩ := q
    obtain ⟨p, vs, rfl, e, r⟩ := ra.lst
    refine ⟨p, vs, rfl, sqL_of e, fun t nt => ?_⟩
    obtain ⟨l2, o2, r2⟩ := owns_new o nt (cut_rep (lo := l) (hi := u) r)
    exact k _ _ _ c _ l2 o2 r2 (fun z e => by cases e; exact nt) q
instance : LRS K (rSlT K) pSlT where
  run := fun w c H x a l u Qp Q o ra q k => by
    obtain ⟨xs, rfl, h, q⟩ := q
    obtain ⟨p, vs, rfl, e, r⟩ := ra.tup
    refine ⟨p, vs, rfl, e, by rw [r.len]; exact h, fun t nt => ?_⟩
    exact k _ _ w c _ (.new nt) (o.new nt) (.tup (by rw [cut_at (o.nz nt)]; exact upd_same) ((Le.new nt).rps o (cut_rep r))) q
instance : LRS K (rSlA K) pSlA where
  run := fun w c H x a l u Qp Q o ra q k => by
    obtain ⟨xs, rfl, q⟩ := q
    obtain ⟨p, vs, rfl, e, r⟩ := ra.tup
    refine ⟨p, vs, rfl, e, fun hw => ?_, fun _ t nt => ?_⟩
    · have : cutP xs l u = xs := by
        unfold cutP
        rw [r.len] at hw
        rw [hw.1, hw.2, List.drop_zero, Nat.sub_zero, List.take_length]
      rw [this] at q
      exact k _ _ w c H .refl o (by
        rcases ra with h | ⟨ys, e, _⟩
        · exact h
        · cases e) q
    · exact k _ _ w c _ (.new nt) (o.new nt) (.tup (by rw [cut_at (o.nz nt)]; exact upd_same) ((Le.new nt).rps o (cut_rep r))) q
theorem slAK {X : Cx} (K : PySem.W.Frag) (h : X.K = K := by rfl) : SlR X (rSlA K) := by
  subst h
  exact sl_tupA
instance : LRS K rSlS pSlS where
  run := fun w c H x a l u Qp Q o ra q k => by
    obtain ⟨z, rfl, h, q⟩ := q
    exact ⟨z, ra.str, h, k _ _ w c H .refl o (.str _) q⟩
/-! sums of sequences -/
def pCat : D → PR D (List D) := fun a b c Q => ∃ xs ys, a = .lst xs ∧ b = .lst ys ∧ xs.length + ys.length ≤ sizeLine ∧ Q (xs ++ ys) c
instance : LRF2 K rCat pCat where
  run := fun w c H x y a b Qp Q o ra rb q k => by
    obtain ⟨xs, ys, rfl, rfl, h, q⟩ := q
    obtain ⟨p, vs, rfl, e, r⟩ := ra.lst
    obtain ⟨p2, us, rfl, e2, r2⟩ := rb.lst
    refine ⟨p, p2, vs, us, rfl, rfl, e, e2, by rw [r.len, r2.len]; exact h, fun t nt => ?_⟩
    obtain ⟨l3, o3, r3⟩ := owns_new o nt (r.app r2)
    exact k _ _ _ c _ l3 o3 r3 (fun z e => by cases e; exact nt) q
def pRep : D → PR D (List D) := fun a b c Q => ∃ xs k, a = .lst xs ∧ b = .int k ∧ -(2 ^ 63) ≤ k ∧ k < 2 ^ 63 ∧ xs.length * k.toNat ≤ sizeLine ∧ Q (List.replicate k.toNat xs).flatten c
instance : LRF2 K rRep pRep where
  run := fun w c H x y a b Qp Q o ra rb q k => by
    obtain ⟨xs, n, rfl, rfl, h1, h2, h3, q⟩ := q
    obtain ⟨p, vs, rfl, e, r⟩ := ra.lst
    refine ⟨p, n, vs, rfl, rb.int, e, h1, h2, by rw [r.len]; exact h3, fun t nt => ?_⟩
    obtain ⟨l3, o3, r3⟩ := owns_new o nt (r.flat n.toNat)
    exact k _ _ _ c _ l3 o3 r3 (fun z e => by cases e; exact nt) q
def pCatA : D → PR D D := fun a b c Q => ∃ xs ys, a = .tup xs ∧ b = .tup ys ∧ xs.length + ys.length ≤ sizeLine ∧ Q (.tup (xs ++ ys)) c
theorem RP.tupq {w : Wd} {H : Hp} {a : Addr} {vs : List V} {ds : List D} (h : RB K w H (.ref a) (.tup ds)) : RP K w H (.ref a) (.tup ds) := by
  rcases h with h | ⟨ys, e, _⟩
  · exact h
  · cases e
instance : LR2 K (rCatA K) pCatA where
  run := fun w c H x y a b Qp Q o ra rb q k => by
    obtain ⟨xs, ys, rfl, rfl, h, q⟩ := q
    obtain ⟨p, vs, rfl, e, r⟩ := ra.tup
    obtain ⟨p2, us, rfl, e2, r2⟩ := rb.tup
    refine ⟨p, p2, vs, us, rfl, rfl, e, e2, by rw [r.len, r2.len]; exact h, fun z => ?_, fun _ z => ?_, fun _ _ t nt => ?_⟩
    · have : xs = [] := List.length_eq_zero_iff.mp (by rw [← r.len, z]; rfl)
      subst this
      exact k _ _ w c H .refl o (RP.tupq (vs := us) rb) (by simpa using q)
    · have : ys = [] := List.length_eq_zero_iff.mp (by rw [← r2.len, z]; rfl)
      subst this
      exact k _ _ w c H .refl o (RP.tupq (vs := us) ra) (by simpa using q)
    · exact k _ _ w c _ (.new nt) (o.new nt) (.tup (by rw [cut_at (o.nz nt)]; exact upd_same) ((Le.new nt).rps o (r.app r2))) q
instance : LR2 K (rCatT K) (fun a b c Q => ∃ xs ys, a = .tup xs ∧ b = .tup ys ∧ xs ≠ [] ∧ xs.length + ys.length ≤ sizeLine ∧ Q (.tup (xs ++ ys)) c) where
  run := fun w c H x y a b Qp Q o ra rb q k => by
    obtain ⟨xs, ys, rfl, rfl, hne, h, q⟩ := q
    obtain ⟨p, vs, rfl, e, r⟩ := ra.tup
    obtain ⟨p2, us, rfl, e2, r2⟩ := rb.tup
    refine ⟨p, p2, vs, us, rfl, rfl, e, e2, fun z => hne (List.length_eq_zero_iff.mp (by rw [← r.len, z]; rfl)), by rw [r.len, r2.len]; exact h, fun z => ?_, fun _ t nt => ?_⟩
    · have : ys = [] := List.length_eq_zero_iff.mp (by rw [← r2.len, z]; rfl)
      subst this
      exact k _ _ w c H .refl o (RP.tupq (vs := us) ra) (by simpa using q)
    · exact k _ _ w c _ (.new nt) (o.new nt) (.tup (by rw [cut_at (o.nz nt)]; exact upd_same) ((Le.new nt).rps o (r.app r2))) q
/-! ### built-ins -/
theorem RBs.one {w : Wd} {H : Hp} {vs : List V} {d : D} (h : RBs K w H vs [d]) : ∃ v, vs = [v] ∧ RB K w H v d := by
  cases h with
  | cons a b =>
    cases b
    exact ⟨_, rfl, a⟩
theorem RBs.two {w : Wd} {H : Hp} {vs : List V} {d e : D} (h : RBs K w H vs [d, e]) : ∃ v u, vs = [v, u] ∧ RB K w H v d ∧ RB K w H u e := by
  cases h with
  | cons a b =>
    obtain ⟨u, rfl, b2⟩ := RBs.one b
    exact ⟨_, _, rfl, a, b2⟩
def LenD : D → Nat → Prop
  | .str y, n => y.length ≤ sizeLine ∧ n = y.length
  | .lst xs, n => n = xs.length
  | .tup xs, n => n = xs.length
  | .slst xs, n => n = xs.length
  | _, _ => False
def pLen : PR (List D) D := fun ds c Q => ∃ a n, ds = [a] ∧ LenD a n ∧ Q (.int (n : Nat)) c
instance : LRC K (rLenU K) pLen where
  run := fun w c H xs ds Qp Q o r0 q k => by
    obtain ⟨a, n, rfl, h, q⟩ := q
    obtain ⟨v, rfl, r⟩ := r0.one
    refine ⟨v, n, rfl, ?_, k _ _ w c H .refl o (.int _) q⟩
    cases a with
    | str z =>
      rw [r.str]
      exact h
    | lst xs =>
      obtain ⟨p, vs, rfl, e, r2⟩ := r.lst
      exact .inl ⟨vs, sqL_of e, by rw [r2.len]; exact h⟩
    | tup xs =>
      obtain ⟨p, vs, rfl, e, r2⟩ := r.tup
      exact .inr ⟨vs, e, by rw [r2.len]; exact h⟩
    | slst xs =>
      obtain ⟨p, rfl, e⟩ := r.slst
      exact .inl ⟨_, e, by rw [List.length_map]; exact h⟩
    | _ => exact h.elim
def pSum : PR (List D) D := fun ds c Q => ∃ ns : List Int, ds = [.lst (ns.map .int)] ∧ Q (.int ns.sum) c
def pSumT : PR (List D) D := fun ds c Q => ∃ ns : List Int, ds = [.tup (ns.map .int)] ∧ Q (.int ns.sum) c
instance : LRC K (rSum K) pSum where
  run := fun w c H xs ds Qp Q o r0 q k => by
    obtain ⟨ns, rfl, q⟩ := q
    obtain ⟨v, rfl, r⟩ := r0.one
    obtain ⟨p, vs, rfl, e, r2⟩ := r.lst
    rw [r2.ints] at e
    exact ⟨p, ns, rfl, sqL_of e, k _ _ w c H .refl o (.int _) q⟩
instance : LRC K (rSumT K) pSumT where
  run := fun w c H xs ds Qp Q o r0 q k => by
    obtain ⟨ns, rfl, q⟩ := q
    obtain ⟨v, rfl, r⟩ := r0.one
    obtain ⟨p, vs, rfl, e, r2⟩ := r.tup
    rw [r2.ints] at e
    exact ⟨p, ns, rfl, e, k _ _ w c H .refl o (.int _) q⟩
def pMaxL : PR (List D) D := fun ds c Q => ∃ ns : List Int, ds = [.lst (ns.map .int)] ∧ 0 < ns.length ∧ ∀ m, m ∈ ns → (∀ y, y ∈ ns → y ≤ m) → Q (.int m) c
def pMinL : PR (List D) D := fun ds c Q => ∃ ns : List Int, ds = [.lst (ns.map .int)] ∧ 0 < ns.length ∧ ∀ m, m ∈ ns → (∀ y, y ∈ ns → m ≤ y) → Q (.int m) c
instance : LRC K (rMax K) pMaxL where
  run := fun w c H xs ds Qp Q o r0 q k => by
    obtain ⟨ns, rfl, h, q⟩ := q
    obtain ⟨v, rfl, r⟩ := r0.one
    obtain ⟨p, vs, rfl, e, r2⟩ := r.lst
    rw [r2.ints] at e
    exact ⟨p, ns, rfl, sqL_of e, h, fun m hm hx => k _ _ w c H .refl o (.int _) (q m hm hx)⟩
instance : LRC K (rMin K) pMinL where
  run := fun w c H xs ds Qp Q o r0 q k => by
    obtain ⟨ns, rfl, h, q⟩ := q
    obtain ⟨v, rfl, r⟩ := r0.one
    obtain ⟨p, vs, rfl, e, r2⟩ := r.lst
    rw [r2.ints] at e
    exact ⟨p, ns, rfl, sqL_of e, h, fun m hm hx => k _ _ w c H .refl o (.int _) (q m hm hx)⟩
def pAll : PR (List D) D := fun ds c Q => ∃ bs : List Bool, ds = [.lst (bs.map .bl)] ∧ Q (.bl (bs.all id)) c
def pAny : PR (List D) D := fun ds c Q => ∃ bs : List Bool, ds = [.lst (bs.map .bl)] ∧ Q (.bl (bs.any id)) c
instance : LRC K (rAll K) pAll where
  run := fun w c H xs ds Qp Q o r0 q k => by
    obtain ⟨ns, rfl, q⟩ := q
    obtain ⟨v, rfl, r⟩ := r0.one
    obtain ⟨p, vs, rfl, e, r2⟩ := r.lst
    rw [r2.bls] at e
    exact ⟨p, ns, rfl, sqL_of e, k _ _ w c H .refl o (.bl _) q⟩
instance : LRC K (rAny K) pAny where
  run := fun w c H xs ds Qp Q o r0 q k => by
    obtain ⟨ns, rfl, q⟩ := q
    obtain ⟨v, rfl, r⟩ := r0.one
    obtain ⟨p, vs, rfl, e, r2⟩ := r.lst
    rw [r2.bls] at e
    exact ⟨p, ns, rfl, sqL_of e, k _ _ w c H .refl o (.bl _) q⟩
def pC2 (f : Int → Int → Int) : PR (List D) D := fun ds c Q => ∃ i j, ds = [.int i, .int j] ∧ Q (.int (f i j)) c
instance {f : Int → Int → Int} : LRC K (fun xs H Q => ∃ i j, xs = [.int i, .int j] ∧ Q (.int (f i j)) H) (pC2 f) where
  run := fun w c H xs ds Qp Q o r0 q k => by
    obtain ⟨i, j, rfl, q⟩ := q
    obtain ⟨v, u, rfl, r1, r2⟩ := r0.two
    exact ⟨i, j, by rw [r1.int, r2.int], k _ _ w c H .refl o (.int _) q⟩
def pSorted : PR (List D) (List D) := fun ds c Q => ∃ ns : List Int, ds = [.lst (ns.map .int)] ∧ ∀ ns' : List Int, ns'.Perm ns → ns'.Pairwise (· ≤ ·) → Q (ns'.map .int) c
instance : LRCF K (rSortedI K) pSorted where
  run := fun w c H xs ds Qp Q o r0 q k => by
    obtain ⟨ns, rfl, q⟩ := q
    obtain ⟨v, rfl, r⟩ := r0.one
    obtain ⟨p, vs, rfl, e, r2⟩ := r.lst
    rw [r2.ints] at e
    refine ⟨p, ns, rfl, sqL_of e, fun ns' t h1 h2 nt => ?_⟩
    obtain ⟨l3, o3, r3⟩ := owns_new o nt (Reps.of_ints (K := K) (S := w.S) (H := cut w.Z H) ns')
    exact k _ _ _ c _ l3 o3 r3 (fun z e => by cases e; exact nt) (q ns' h1 h2)
def pListU : PR (List D) (List D) := fun ds c Q => ∃ a xs, ds = [a] ∧ seqD a = some xs ∧ Q xs c
instance : LRCF K (rListU K) pListU where
  run := fun w c H vs ds Qp Q o r0 q k => by
    obtain ⟨a, xs, rfl, h, q⟩ := q
    obtain ⟨v, rfl, r⟩ := r0.one
    have go : ∀ (p : Addr) (us : List V), v = .ref p → (SqL K H p us ∨ SqT K H p us) → RPs K w H us xs → rListU K [v] H Q := fun p us e h g => by
      subst e
      refine ⟨p, us, rfl, h, fun t nt => ?_⟩
      obtain ⟨l3, o3, r3⟩ := owns_new o nt g
      exact k _ _ _ c _ l3 o3 r3 (fun z e => by cases e; exact nt) q
    cases a with
    | lst ys =>
      cases h
      obtain ⟨p, us, e, e2, r2⟩ := r.lst
      exact go p us e (.inl (sqL_of e2)) r2
    | tup ys =>
      cases h
      obtain ⟨p, us, e, e2, r2⟩ := r.tup
      exact go p us e (.inr e2) r2
    | _ => cases h
def pTupU : PR (List D) D := fun ds c Q => ∃ xs, ds = [.lst xs] ∧ Q (.tup xs) c
instance : LRC K (rTupU K) pTupU where
  run := fun w c H vs ds Qp Q o r0 q k => by
    obtain ⟨xs, rfl, q⟩ := q
    obtain ⟨v, rfl, r⟩ := r0.one
    obtain ⟨p, us, rfl, e, r2⟩ := r.lst
    refine ⟨p, us, rfl, sqL_of e, fun t nt => ?_⟩
    exact k _ _ w c _ (.new nt) (o.new nt) (.tup (by rw [cut_at (o.nz nt)]; exact upd_same) ((Le.new nt).rps o r2)) q
def pIntI : PR (List D) D := fun ds c Q => ∃ i, ds = [.int i] ∧ Q (.int i) c
def pIntB : PR (List D) D := fun ds c Q => ∃ b, ds = [.bl b] ∧ Q (.int (if b = true then 1 else 0)) c
instance : LRC K rIntI pIntI where
  run := fun w c H xs ds Qp Q o r0 q k => by
    obtain ⟨i, rfl, q⟩ := q
    obtain ⟨v, rfl, r⟩ := r0.one
    exact ⟨i, by rw [r.int], k _ _ w c H .refl o (.int _) q⟩
instance : LRC K rIntB pIntB where
  run := fun w c H xs ds Qp Q o r0 q k => by
    obtain ⟨i, rfl, q⟩ := q
    obtain ⟨v, rfl, r⟩ := r0.one
    exact ⟨i, by rw [r.bl], k _ _ w c H .refl o (.int _) q⟩
def pStrI : PR (List D) D := fun ds c Q => ∃ i, ds = [.int i] ∧ i.natAbs.log2 < 1920 ∧ Q (.str (toString i)) c
instance : LRC K (fun xs H Q => ∃ i, xs = [.int i] ∧ i.natAbs.log2 < 1920 ∧ Q (.str (toString i)) H) pStrI where
  run := fun w c H xs ds Qp Q o r0 q k => by
    obtain ⟨i, rfl, h, q⟩ := q
    obtain ⟨v, rfl, r⟩ := r0.one
    exact ⟨i, by rw [r.int], h, k _ _ w c H .refl o (.str _) q⟩
/-! methods of texts -/
def pSIndex : D → PR (List D) D := fun x ds c Q => ∃ a b i rest, x = .str a ∧ ds = [.str b] ∧ Builtin.Str.occurrences a b 0 a.length 1 = i :: rest ∧ Q (.int (i : Nat)) c
instance : LRM K (fun x xs H Q => ∃ a b i rest, x = .str a ∧ xs = [.str b] ∧ Builtin.Str.occurrences a b 0 a.length 1 = i :: rest ∧ Q (.int (i : Nat)) H) pSIndex where
  run := fun w c H x a xs ds Qp Q o ra r0 q k => by
    obtain ⟨y, z, i, rest, rfl, rfl, h, q⟩ := q
    obtain ⟨v, rfl, r⟩ := r0.one
    exact ⟨y, z, i, rest, ra.str, by rw [r.str], h, k _ _ w c H .refl o (.int _) q⟩
def pSCount : D → PR (List D) D := fun x ds c Q => ∃ a b, x = .str a ∧ ds = [.str b] ∧ Q (.int (Txt.count a b)) c
instance : LRM K (fun x xs H Q => ∃ a b, x = .str a ∧ xs = [.str b] ∧ Q (.int (Txt.count a b)) H) pSCount where
  run := fun w c H x a xs ds Qp Q o ra r0 q k => by
    obtain ⟨y, z, rfl, rfl, q⟩ := q
    obtain ⟨v, rfl, r⟩ := r0.one
    exact ⟨y, z, ra.str, by rw [r.str], k _ _ w c H .refl o (.int _) q⟩
def pJoin : D → PR (List D) D := fun x ds c Q => ∃ a, ∃ ys : List Str, x = .str a ∧ ds = [.lst (ys.map .str)] ∧ (ys.map (·.length)).sum + ys.length * a.length ≤ 16777216 ∧ Q (.str (Txt.join a ys)) c
instance : LRM K (rJn K) pJoin where
  run := fun w c H x a xs ds Qp Q o ra r0 q k => by
    obtain ⟨y, ys, rfl, rfl, h, q⟩ := q
    obtain ⟨v, rfl, r⟩ := r0.one
    obtain ⟨p, us, rfl, e, r2⟩ := r.lst
    rw [r2.strs] at e
    exact ⟨y, p, ys, ra.str, rfl, sqL_of e, h, k _ _ w c H .refl o (.str _) q⟩
/-! ### isinstance -/
def tyD : D → String
  | .non => "NoneType" | .bl _ => "bool" | .int _ => "int" | .str _ => "str" | .tup _ => "tuple" | .lst _ => "list" | .slst _ => "list" | .dic _ _ => "dict" | _ => ""
/-- whether a value that is no instance is of a built-in kind -/
def isTyD (d : D) (n : String) : Bool := tyD d == n || (tyD d == "bool" && n == "int")
def plainD : D → Bool
  | .ins _ _ _ => false | .brk => false | .slst _ => false | _ => true
/-- a value that isinstance may be asked about -/
def plainQ (K : PySem.W.Frag) : D → Prop
  | .ins C _ _ => IsC K (He.ga K C) ∧ Cls K (He.ga K C)
  | d => plainD d = true
def okTy (n : String) : Bool := n == "int" || n == "bool" || n == "str" || n == "tuple" || n == "list"
theorem okTy_of {n : String} (h : okTy n = true) : n = "int" ∨ n = "bool" ∨ n = "str" ∨ n = "tuple" ∨ n = "list" := by
  unfold okTy at h
  simp only [Bool.or_eq_true, beq_iff_eq] at h
  rcases h with (((h | h) | h) | h) | h
  · exact .inl h
  · exact .inr (.inl h)
  · exact .inr (.inr (.inl h))
  · exact .inr (.inr (.inr (.inl h)))
  · exact .inr (.inr (.inr (.inr h)))
def pIsTy (K : PySem.W.Frag) (n : String) (p : PX D) : PX D := fun ρ c Q => p ρ c fun d c1 => plainQ K d ∧ okTy n = true ∧ Q (.bl (isTyD d n)) c1
theorem kit_nl : PySem.W.kitOne K (.type "NoneType") (.type "list") = some false := by kernel_rfl
theorem kit_nb : PySem.W.kitOne K (.type "NoneType") (.type "bool") = some false := by kernel_rfl
theorem kit_bl : PySem.W.kitOne K (.type "bool") (.type "list") = some false := by kernel_rfl
theorem kit_tb : PySem.W.kitOne K (.type "tuple") (.type "bool") = some false := by kernel_rfl
theorem kit_lb : PySem.W.kitOne K (.type "list") (.type "bool") = some false := by kernel_rfl
theorem kit_d {n : String} (hn : n = "int" ∨ n = "bool" ∨ n = "str" ∨ n = "tuple" ∨ n = "list") : PySem.W.kitOne K (.type "dict") (.type n) = some false := by
  rcases hn with rfl | rfl | rfl | rfl | rfl <;> kernel_rfl
theorem RB.ty {w : Wd} {H : Hp} {v : V} {d : D} (h : RB K w H v d) (p : plainD d = true) : TyX K H v (.type (tyD d)) := by
  cases d with
  | non =>
    rw [h.non]
    exact .base .non
  | bl b =>
    rw [h.bl]
    exact .base (.bl b)
  | int b =>
    rw [h.int]
    exact .base (.int b)
  | str b =>
    rw [h.str]
    exact .base (.str b)
  | lst xs =>
    obtain ⟨a, vs, rfl, e, _⟩ := h.lst
    exact .base (.lst e)
  | tup xs =>
    obtain ⟨a, vs, rfl, e, _⟩ := h.tup
    rcases e with (e | ⟨o, e⟩) | ⟨o, its, n, e, c, _⟩
    · exact .base (.tup e)
    · exact .fTuple e
    · exact .kTuple e c
  | dic ks xs =>
    rcases h with h | ⟨_, e, _⟩
    · cases h with
      | dic e _ _ => exact .base (.dK (cut_same _ _ e))
    · cases e
  | _ => cases p
theorem kit_all {d : D} {n : String} (p : plainD d = true) (hn : n = "int" ∨ n = "bool" ∨ n = "str" ∨ n = "tuple" ∨ n = "list") : PySem.W.kitOne K (.type (tyD d)) (.type n) = some (isTyD d n) := by
  cases d with
  | non => rcases hn with rfl | rfl | rfl | rfl | rfl <;> first | exact kit_ni | exact kit_nb | exact kit_ns | exact kit_nt | exact kit_nl
  | bl b => rcases hn with rfl | rfl | rfl | rfl | rfl <;> first | exact kit_bi | exact kit_bb | exact kit_bs | exact kit_bt | exact kit_bl
  | int b => rcases hn with rfl | rfl | rfl | rfl | rfl <;> first | exact kit_ii | exact kit_ib | exact kit_is | exact kit_it | exact kit_il
  | str b => rcases hn with rfl | rfl | rfl | rfl | rfl <;> first | exact kit_si | exact kit_sb | exact kit_ss | exact kit_st | exact kit_sl
  | tup b => rcases hn with rfl | rfl | rfl | rfl | rfl <;> first | exact kit_ti | exact kit_tb | exact kit_ts | exact kit_tt | exact kit_tl
  | lst b => rcases hn with rfl | rfl | rfl | rfl | rfl <;> first | exact kit_li | exact kit_lb | exact kit_ls | exact kit_lt | exact kit_ll
  | dic a b => rcases hn with rfl | rfl | rfl | rfl | rfl <;> exact kit_d (by decide)
  | _ => cases p
instance (priority := high) {n : String} {te : TE} {pe : PX D} [h : LB K te pe] : LE K (tCB (rIsi K) (tCons te (tCons (tC (.ty n)) tNil))) (pIsTy K n pe) where
  run := fun w0 H0 c0 w c H σ ρ Qp Q k0 R x k => h.run w0 H0 c0 w c H σ ρ _ _ k0 R x fun v d w1 c1 H1 l1 o1 r1 q1 => by
    obtain ⟨p, hn, q⟩ := q1
    by_cases hi : ∃ C ks vs, d = .ins C ks vs
    · obtain ⟨C, ks, vs, rfl⟩ := hi
      obtain ⟨i, cl⟩ := p
      rcases r1 with r1 | ⟨_, e, _⟩
      · cases r1 with
        | @ins a dx _ fs _ _ e e1 r =>
          have e0 : isTyD (.ins C ks vs) n = false := by rcases okTy_of hn with rfl | rfl | rfl | rfl | rfl <;> rfl
          rw [e0] at q
          exact ⟨.ref a, .ty n, _, _, _, rfl, .ty n, i.ty cl (cut_same _ _ e), i.no (okTy_of hn), k _ _ w1 c1 H1 l1 o1 (.bl _) q⟩
      · cases e
    replace p : plainD d = true := by
      cases d with
      | ins C ks vs => exact absurd ⟨C, ks, vs, rfl⟩ hi
      | _ => exact p
    exact ⟨v, .ty n, _, _, _, rfl, .ty n, r1.ty p, kit_all p (okTy_of hn), k _ _ w1 c1 H1 l1 o1 (.bl _) q⟩
/-- an instance of this own class -/
def pIsCl (K : PySem.W.Frag) (C : Str) (p : PX D) : PX D := fun ρ c Q => p ρ c fun d c1 => ∃ ks vs, d = .ins C ks vs ∧ IsC K (He.ga K C) ∧ Cls K (He.ga K C) ∧ Q (.bl true) c1
instance (priority := high) {C : Str} {te : TE} {pe : PX D} [h : LE K te pe] : LE K (tCB (rIsi K) (tCons te (tCons (tC (.ref (He.ga K C))) tNil))) (pIsCl K C pe) where
  run := fun w0 H0 c0 w c H σ ρ Qp Q k0 R x k => h.run w0 H0 c0 w c H σ ρ _ _ k0 R x fun v d w1 c1 H1 l1 o1 r1 q1 => by
    obtain ⟨ks, vs, rfl, i, cl, q⟩ := q1
    cases r1 with
    | @ins a dx _ fs _ _ e e1 r =>
      exact ⟨.ref a, .ref (He.ga K C), _, _, _, rfl, .own _, i.ty cl (cut_same _ _ e), kit_own, k _ _ w1 c1 H1 l1 o1 (.bl _) q⟩
/-! ### attributes -/
def lookD (f : Str) : List Str → List D → Option D
  | k :: ks, d :: ds => if k = f then some d else lookD f ks ds
  | _, _ => none
theorem look_rep {w : Wd} {H : Hp} {f : Str} : ∀ {fs : List (Str × V)} {ds : List D} {d : D}, RPs K w H (fs.map (·.2)) ds → lookD f (fs.map (·.1)) ds = some d → ∃ v, fs.lookup f = some v ∧ RP K w H v d
  | [], _, _, _, h => nomatch h
  | (k, v) :: fs, d :: ds, d', .cons a b, h => by
    rw [List.map_cons, lookD] at h
    by_cases e : k = f
    · rw [if_pos e] at h
      cases h
      exact ⟨v, by rw [List.lookup_cons, e, beq_self_eq_true], a⟩
    · rw [if_neg e] at h
      obtain ⟨u, hu, ru⟩ := look_rep b h
      refine ⟨u, ?_, ru⟩
      rw [List.lookup_cons, show (f == k) = false from beq_eq_false_iff_ne.mpr (Ne.symm e)]
      exact hu
def pFld (K : PySem.W.Frag) (f : Str) (p : PX D) : PX D := fun ρ c Q => p ρ c fun d c1 => ∃ C ks vs e, d = .ins C ks vs ∧ Cls K (He.ga K C) ∧ NoAttr K (He.ga K C) f ∧ lookD f ks vs = some e ∧ Q e c1
instance {f : Str} {te : TE} {pe : PX D} [h : LE K te pe] : LE K (tFld K te f) (pFld K f pe) where
  run := fun w0 H0 c0 w c H σ ρ Qp Q k0 R x k => h.run w0 H0 c0 w c H σ ρ _ _ k0 R x fun v d w1 c1 H1 l1 o1 r1 q1 => by
    obtain ⟨C, ks, vs, e, rfl, cl, na, hl, q⟩ := q1
    cases r1 with
    | @ins a dx _ fs _ _ h1 h2 r =>
      subst h2
      obtain ⟨u, hu, ru⟩ := look_rep r hl
      exact ⟨a, _, dx, fs, u, rfl, cut_same _ _ h1, cl, na, hu, k u e w1 c1 H1 l1 o1 ru q⟩
/-! ### zip, enumerate -/
theorem zipD_at {xs ys : List D} {i : Nat} {a b : D} (h : xs[i]? = some a) (g : ys[i]? = some b) : (zipD xs ys)[i]? = some (.tup [a, b]) := by
  unfold zipD
  rw [List.getElem?_map, List.getElem?_zip_eq_some (z := (a, b)) |>.mpr ⟨h, g⟩]
  rfl
theorem zipD_len (xs ys : List D) : (zipD xs ys).length = min xs.length ys.length := by
  unfold zipD
  rw [List.length_map, List.length_zip]
theorem RPs.two {w : Wd} {H : Hp} {vs : List V} {d e : D} (h : RPs K w H vs [d, e]) : ∃ v u, vs = [v, u] ∧ RP K w H v d ∧ RP K w H u e := by
  cases h with
  | cons a b =>
    cases b with
    | cons b r =>
      cases r
      exact ⟨_, _, rfl, a, b⟩
theorem RPs.one {w : Wd} {H : Hp} {vs : List V} {d : D} (h : RPs K w H vs [d]) : ∃ v, vs = [v] ∧ RP K w H v d := by
  cases h with
  | cons a b =>
    cases b
    exact ⟨_, rfl, a⟩
def kindD (k : Bool) : D → Option (List D) := if k then lstD else tupD
theorem kind_rep {w : Wd} {H : Hp} {k : Bool} {v : V} {d : D} {xs : List D} (h : kindD k d = some xs) (r : RP K w H v d) : ∃ a vs, v = .ref a ∧ SqX K k (cut w.Z H) a vs ∧ RPs K w H vs xs := by
  cases k with
  | true =>
    cases d with
    | lst ys =>
      cases h
      cases r with
      | lst e r => exact ⟨_, _, rfl, sqL_of e, r⟩
    | _ => cases h
  | false =>
    cases d with
    | tup ys =>
      cases h
      cases r with
      | tup e r => exact ⟨_, _, rfl, sqT_of e, r⟩
    | _ => cases h
theorem sqX_same {k : Bool} {H H' : Hp} {a : Addr} {vs : List V} (s : Same H H') (h : SqX K k H a vs) : SqX K k H' a vs := by
  cases k with
  | false => exact s.sqT h
  | true =>
    rcases (show SqL K H a vs from h) with (h | ⟨o, h⟩) | h
    · exact .inl (.inl (s _ _ h))
    · exact .inl (.inr ⟨o, s _ _ h⟩)
    · exact .inr h
theorem zip_walks {w1 : Wd} {H1 : Hp} {J : It} {G : Hp → Prop} {n : Nat} {vs us : List V} {xs ys : List D} (hw : Walk J n G (YPair (fun i => vs[i]?) (fun i => us[i]?))) (hn : n = min vs.length us.length) (hG : ∀ w H, Ls w1 H1 w H → G H) (r1 : RPs K w1 H1 vs xs) (r2 : RPs K w1 H1 us ys) : Walks K (Ls w1 H1) J (zipD xs ys) := by
  refine walks_pair hw hG (by rw [zipD_len, hn, r1.len, r2.len]) fun i w H x y l hx hy => ?_
  obtain ⟨a, ha, ra⟩ := (l.rps r1).get hx
  obtain ⟨b, hb, rb⟩ := (l.rps r2).get hy
  exact ⟨a, b, zipD_at ha hb, ra, rb⟩
instance {ka kb : Bool} {ta : TA} {pa : PX (List D)} [h : LA K ta pa] : LI K (iZipM K ka kb ta) (pZip (kindD ka) (kindD kb) pa) where
  run := fun w0 H0 c0 w c H σ ρ Qp R k0 RR x k => h.run w0 H0 c0 w c H σ ρ _ _ k0 RR x fun v d w1 c1 H1 l1 o1 r1 q1 => by
    obtain ⟨a, b, xs, ys, rfl, ha, hb, q⟩ := q1
    obtain ⟨v1, v2, rfl, rp1, rp2⟩ := r1.two
    obtain ⟨p, vs, rfl, e1, s1⟩ := kind_rep ha rp1
    obtain ⟨p2, us, rfl, e2, s2⟩ := kind_rep hb rp2
    exact ⟨p, p2, vs, us, rfl, sqX_same cut_same e1, sqX_same cut_same e2, k _ _ w1 c1 H1 l1 o1 (zip_walks (walk_zipM rfl) rfl (fun w H l => ⟨sqX_same cut_same (sqX_same l.c e1), sqX_same cut_same (sqX_same l.c e2)⟩) s1 s2) q⟩
instance {ta : TA} {pa : PX (List D)} [h : LA K ta pa] : LI K (iZipT K ta) (pZip tupD tupD pa) where
  run := fun w0 H0 c0 w c H σ ρ Qp R k0 RR x k => h.run w0 H0 c0 w c H σ ρ _ _ k0 RR x fun v d w1 c1 H1 l1 o1 r1 q1 => by
    obtain ⟨a, b, xs, ys, rfl, ha, hb, q⟩ := q1
    obtain ⟨v1, v2, rfl, rp1, rp2⟩ := r1.two
    obtain ⟨p, vs, rfl, e1, s1⟩ := kind_rep (k := false) ha rp1
    obtain ⟨p2, us, rfl, e2, s2⟩ := kind_rep (k := false) hb rp2
    exact ⟨p, p2, vs, us, rfl, sqX_same (k := false) cut_same e1, sqX_same (k := false) cut_same e2, k _ _ w1 c1 H1 l1 o1 (zip_walks (walk_zipT rfl) rfl (fun w H l => ⟨sqX_same (k := false) cut_same (sqX_same l.c e1), sqX_same (k := false) cut_same (sqX_same l.c e2)⟩) s1 s2) q⟩
instance {ta : TA} {pa : PX (List D)} [h : LA K ta pa] : LI K (iZipL K ta) (pZip lstD lstD pa) where
  run := fun w0 H0 c0 w c H σ ρ Qp R k0 RR x k => h.run w0 H0 c0 w c H σ ρ _ _ k0 RR x fun v d w1 c1 H1 l1 o1 r1 q1 => by
    obtain ⟨a, b, xs, ys, rfl, ha, hb, q⟩ := q1
    obtain ⟨v1, v2, rfl, rp1, rp2⟩ := r1.two
    obtain ⟨p, vs, rfl, e1, s1⟩ := kind_rep (k := true) ha rp1
    obtain ⟨p2, us, rfl, e2, s2⟩ := kind_rep (k := true) hb rp2
    exact ⟨p, p2, vs, us, rfl, sqX_same (k := true) cut_same e1, sqX_same (k := true) cut_same e2, k _ _ w1 c1 H1 l1 o1 (zip_walks (walk_zip rfl) rfl (fun w H l => ⟨sqX_same (k := true) cut_same (sqX_same l.c e1), sqX_same (k := true) cut_same (sqX_same l.c e2)⟩) s1 s2) q⟩
theorem range_at {lo : Int} {n i : Nat} (h : i < n) : (rangeD lo n)[i]? = some (.int (lo + (i : Nat))) := by
  unfold rangeD
  rw [List.getElem?_map, List.getElem?_range h]
  rfl
theorem enum_walks {w1 : Wd} {H1 : Hp} {J : It} {G : Hp → Prop} {vs : List V} {xs : List D} (hw : Walk J vs.length G (YPair (fun i => some (.int (i : Nat))) (fun i => vs[i]?))) (hG : ∀ w H, Ls w1 H1 w H → G H) (r1 : RPs K w1 H1 vs xs) : Walks K (Ls w1 H1) J (zipD (rangeD 0 xs.length) xs) := by
  refine walks_pair hw hG (by rw [zipD_len, r1.len]; unfold rangeD; rw [List.length_map, List.length_range, Nat.min_self]) fun i w H x y l hx hy => ?_
  obtain ⟨b, hb, rb⟩ := (l.rps r1).get hy
  cases hx
  have hi := (List.getElem?_eq_some_iff.mp hb).1
  exact ⟨_, b, zipD_at (range_at hi) hb, by rw [Int.zero_add]; exact .int _, rb⟩
instance {ta : TA} {pa : PX (List D)} [h : LA K ta pa] : LI K (iEnumT K ta) (pEnum tupD pa) where
  run := fun w0 H0 c0 w c H σ ρ Qp R k0 RR x k => h.run w0 H0 c0 w c H σ ρ _ _ k0 RR x fun v d w1 c1 H1 l1 o1 r1 q1 => by
    obtain ⟨a, xs, rfl, ha, q⟩ := q1
    obtain ⟨v1, rfl, rp1⟩ := r1.one
    obtain ⟨p, vs, rfl, e1, s1⟩ := kind_rep (k := false) ha rp1
    exact ⟨p, vs, rfl, sqX_same (k := false) cut_same e1, k _ _ w1 c1 H1 l1 o1 (enum_walks walk_enumT (fun w H l => sqX_same (k := false) cut_same (sqX_same l.c e1)) s1) q⟩
instance {ta : TA} {pa : PX (List D)} [h : LA K ta pa] : LI K (iEnum K ta) (pEnum lstD pa) where
  run := fun w0 H0 c0 w c H σ ρ Qp R k0 RR x k => h.run w0 H0 c0 w c H σ ρ _ _ k0 RR x fun v d w1 c1 H1 l1 o1 r1 q1 => by
    obtain ⟨a, xs, rfl, ha, q⟩ := q1
    obtain ⟨v1, rfl, rp1⟩ := r1.one
    obtain ⟨p, vs, rfl, e1, s1⟩ := kind_rep (k := true) ha rp1
    exact ⟨p, vs, rfl, sqX_same (k := true) cut_same e1, k _ _ w1 c1 H1 l1 o1 (enum_walks walk_enum (fun w H l => sqX_same (k := true) cut_same (sqX_same l.c e1)) s1) q⟩
end
end WP
/-! ## the pure layer, part 5: data compared and shown; defs -/
namespace WP
open PySem PySem.Spec PyProof.Rows L2 WK
mutual
def toPy : D → PyData
  | .non => .none
  | .bl b => .bool b
  | .int i => .int i
  | .str x => .str x
  | .tup xs => .tuple (toPys xs)
  | .lst xs => .list (toPys xs)
  | _ => .none
def toPys : List D → List PyData
  | [] => []
  | x :: xs => toPy x :: toPys xs
end
mutual
/-- data alone: no instance, no brook -/
def dat : D → Bool
  | .non => true
  | .bl _ => true
  | .int _ => true
  | .str _ => true
  | .tup xs => dats xs
  | .lst xs => dats xs
  | _ => false
def dats : List D → Bool
  | [] => true
  | x :: xs => dat x && dats xs
end
section
variable {K : PySem.W.Frag} {w w' w0 : Wd} {c c' : Om} {H H' H0 : Hp}
mutual
theorem rp_dp {S : Addr → Prop} (hs : Same H H') : ∀ (d : D) (v : V), dat d = true → Rep K S H v d → Dp K H' v (toPy d)
  | .non, v, _, r => by cases r; exact .non
  | .bl b, v, _, r => by cases r; exact .bl b
  | .int b, v, _, r => by cases r; exact .int b
  | .str b, v, _, r => by cases r; exact .str b
  | .tup ds, v, h, r => by
    cases r with
    | tup e r =>
      rw [dat] at h
      exact .tup (sqT_of (hs _ _ e)) (rp_dps hs ds _ h r)
  | .lst ds, v, h, r => by
    cases r with
    | lst e r =>
      rw [dat] at h
      exact .lst (sqL_of (hs _ _ e)) (rp_dps hs ds _ h r)
  | .slst _, _, h, _ => nomatch h
  | .ins _ _ _, _, h, _ => nomatch h
  | .brk, _, h, _ => nomatch h
  | .dic _ _, _, h, _ => nomatch h
theorem rp_dps {S : Addr → Prop} (hs : Same H H') : ∀ (ds : List D) (vs : List V), dats ds = true → Reps K S H vs ds → DpAll K H' vs (toPys ds)
  | [], _, _, r => by cases r; exact .nil
  | d :: ds, _, h, r => by
    cases r with
    | cons a b =>
      rw [dats, Bool.and_eq_true] at h
      exact .cons (rp_dp hs d _ h.1 a) (rp_dps hs ds _ h.2 b)
end
theorem RB.dp {v : V} {d : D} (h : RB K w H v d) (hd : dat d = true) : Dp K H v (toPy d) := by
  rcases h with h | ⟨xs, rfl, a, vs, rfl, z, s, e, r⟩
  · exact rp_dp cut_same d _ hd h
  · exact .lst (sqL_of e) (rp_dps cut_same xs _ (by rw [dat] at hd; exact hd) r)
theorem toPys_map : ∀ xs : List D, toPys xs = xs.map toPy
  | [] => rfl
  | x :: xs => by rw [toPys, List.map_cons, toPys_map xs]
theorem dats_all : ∀ xs : List D, dats xs = xs.all dat
  | [] => rfl
  | x :: xs => by rw [dats, List.all_cons, dats_all xs]
/-- data that may be compared -/
def cmpOk (d : D) : Prop := dat d = true ∧ SeqAt.shaped (toPy d) = true
def eqD (a b : D) : Bool := PyData.eqv (toPy a) (toPy b)
def pEqD : D → PR D D := fun a b c Q => cmpOk a ∧ cmpOk b ∧ Q (.bl (eqD a b)) c
def pNeD : D → PR D D := fun a b c Q => cmpOk a ∧ cmpOk b ∧ Q (.bl (!eqD a b)) c
instance : LR2 K (rEqD K) pEqD where
  run := fun w c H x y a b Qp Q o ra rb q k => by
    obtain ⟨h1, h2, q⟩ := q
    exact ⟨_, _, ra.dp h1.1, rb.dp h2.1, h1.2, h2.2, k _ _ w c H .refl o (.bl _) q⟩
instance : LR2 K (rNeD K) pNeD where
  run := fun w c H x y a b Qp Q o ra rb q k => by
    obtain ⟨h1, h2, q⟩ := q
    exact ⟨_, _, ra.dp h1.1, rb.dp h2.1, h1.2, h2.2, k _ _ w c H .refl o (.bl _) q⟩
/-- data that may be shown -/
def repOk (d : D) : Prop := dat d = true ∧ (toPy d).showable = true ∧ (toPy d).hasDict = false ∧ (toPy d).depth ≤ 60 ∧ (toPy d).shown.length ≤ sizeLine
def pRepr : PR (List D) D := fun ds c Q => ∃ d, ds = [d] ∧ repOk d ∧ Q (.str (toPy d).shown) c
instance : LRC K (rRepr K) pRepr where
  run := fun w c H xs ds Qp Q o r0 q k => by
    obtain ⟨d, rfl, h, q⟩ := q
    obtain ⟨v, rfl, r⟩ := r0.one
    exact ⟨v, _, rfl, r.dp h.1, h.2.1, h.2.2.1, h.2.2.2.1, h.2.2.2.2, k _ _ w c H .refl o (.str _) q⟩
/-! ### defs -/
def startP (N : List Str) (ds : List D) : PSt := ds.map (fun d => some (.val d)) ++ List.replicate (N.length - ds.length) none
theorem rel_start {N : List Str} {vs : List V} {ds : List D} (o : WOk w c H) (r : RPs K w H vs ds) : RelS K w H w c H (L2.start N vs) (startP N ds) where
  le := .refl
  ok := o
  len := by
    unfold L2.start startP
    simp only [List.length_append, List.length_map, List.length_replicate, r.len]
  sl := fun i s h => by
    unfold startP at h
    by_cases hi : i < ds.length
    · rw [List.getElem?_append_left (by rw [List.length_map]; exact hi), List.getElem?_map, List.getElem?_eq_getElem hi] at h
      cases h
      obtain ⟨v, hv, rv⟩ := r.getD (List.getElem?_eq_getElem hi)
      refine ⟨v, ?_, rv, fun q => nomatch q⟩
      unfold L2.start
      rw [List.getElem?_append_left (by rw [List.length_map, r.len]; exact hi), List.getElem?_map, hv]
      rfl
    · rw [List.getElem?_append_right (by rw [List.length_map]; omega), List.getElem?_replicate] at h
      split at h <;> cases h
  ds := fun i j xs ys v n h => by
    unfold startP at h
    by_cases hi : i < ds.length
    · rw [List.getElem?_append_left (by rw [List.length_map]; exact hi), List.getElem?_map, List.getElem?_eq_getElem hi] at h
      cases h
    · rw [List.getElem?_append_right (by rw [List.length_map]; omega), List.getElem?_replicate] at h
      split at h <;> cases h
  ob := fun i s h => by
    unfold startP at h
    by_cases hi : i < ds.length
    · rw [List.getElem?_append_left (by rw [List.length_map]; exact hi), List.getElem?_map, List.getElem?_eq_getElem hi] at h
      cases h
      intro q
      cases q
    · rw [List.getElem?_append_right (by rw [List.length_map]; omega), List.getElem?_replicate] at h
      split at h <;> cases h
theorem fin_ok {Qp : D → Om → Prop} {Q : VK} {Dp : PEnds} {D : Ends} (hn : ∀ ρ c, Dp.nx ρ c → Qp .non c) (hr : ∀ d c, Dp.rt d c → Qp d c) (hb : ∀ ρ c, ¬ Dp.bk ρ c) (hc : ∀ ρ c, ¬ Dp.ct ρ c) (hD : D.nx = fun _ H' => Q .non H') (hD2 : D.rt = Q)
    (k : ∀ v d w' c' H', Le w H w' H' → WOk w' c' H' → RP K w' H' v d → Qp d c' → Q v H') : EndsOk K w H w H Dp D where
  nx := fun w' c' H' σ' ρ' R _ q => by
    rw [hD]
    exact k .non .non w' c' H' R.le R.ok .non (hn _ _ q)
  bk := fun w' c' H' σ' ρ' R _ q => (hb _ _ q).elim
  ct := fun w' c' H' σ' ρ' R _ q => (hc _ _ q).elim
  rt := fun v d w' c' H' l o r q => by
    rw [hD2]
    exact k v d w' c' H' l o r (hr _ _ q)
abbrev endP (Q : D → Om → Prop) : PEnds := { nx := fun _ c => Q .non c, rt := Q }
end
section
variable {P : Program} {w : World} {K : PySem.W.Frag} {mg : Str → Option Value} {base : Heap} {k : Nat} {x : Str} {N ps : List Str} {st : Stmt} {psp : PSp}
theorem body_ok {t : TS} {p : PSs'} {vs : List V} {H : Hp} {Q : VK} {E : XK} {n : Nat} (hl : LS K t p) (hq : ∀ ds c Q, ds.length = n → psp ds c Q → p (endP Q) (startP N ds) c) (h : spP K n psp vs H Q E) : t { nx := fun _ H' => Q .non H', rt := Q } (L2.start N vs) H := by
  obtain ⟨w', c, ds, Qp, o, r, hn, hp, kk⟩ := h
  exact hl.run w' H c w' c H _ _ _ _ o (rel_start o r) (hq ds c Qp hn hp) (fin_ok (fun _ _ q => q) (fun _ _ q => q) (fun _ _ q => q) (fun _ _ q => q) rfl rfl kk)
/-- a def by data -/
theorem okP (F : ∃ fd, FunD K x x (defArgs st) (defBody st) (defScope st) [] [] (He.ga K x) fd) (g : mg x = some (.ref (He.ga K x))) (S : FnScope N ps (defScope st))
    (hb : ∀ (kV doc pm : Value) (an : Option Addr) (cdv ct : Value) (us : List Value), us.length = ps.length → bindArgs (PySem.W.fnOf x x (defArgs st) (defBody st) (defScope st) .none kV doc pm an cdv ct) ⟨us, []⟩ = pure (ps.zip us))
    (hbody : ∀ (f : Addr) (cdv : Value) (A : Around) (outer : List Env) (s : Shared) (H : Hp) (E : XK), Room k (A.deeper (envOfC x (defScope st) s.heap.objs.size f cdv)) →
      ∃ t p, PSs (cxOf CX0 P w K mg base N x (defScope st) f cdv A outer s H E).nox (defBody st) t ∧ LS K t p ∧ ∀ ds c Q, ds.length = ps.length → psp ds c Q → p (endP Q) (startP N ds) c) : Ok P w K mg base CX0 (k + 1) x ps (spP K ps.length psp) :=
  Ok.mk0 F g S (fun vs H Q E h => spP_len h) hb fun f cdv A outer s H vs Q E hr h => by
    obtain ⟨t, p, ht, hl, hq⟩ := hbody f cdv A outer s H E hr
    exact ⟨t, ht, body_ok hl hq h⟩
theorem okPG (F : ∃ fd, FunD K x x (defArgs st) (defBody st) (defScope st) [] [] (He.ga K x) fd) (g : mg x = some (.ref (He.ga K x))) (S : FnScope N ps (defScope st))
    (hb : ∀ (kV doc pm : Value) (an : Option Addr) (cdv ct : Value) (us : List Value), us.length = ps.length → bindArgs (PySem.W.fnOf x x (defArgs st) (defBody st) (defScope st) .none kV doc pm an cdv ct) ⟨us, []⟩ = pure (ps.zip us))
    (hbody : ∀ (f : Addr) (cdv : Value) (A : Around) (outer : List Env) (s : Shared) (H : Hp) (E : XK), Room k (A.deeper (envOfC x (defScope st) s.heap.objs.size f cdv)) → (A.deeper (envOfC x (defScope st) s.heap.objs.size f cdv)).guards = some [] →
      ∃ t p, PSs (cxOf CX0 P w K mg base N x (defScope st) f cdv A outer s H E).nox (defBody st) t ∧ LS K t p ∧ ∀ ds c Q, ds.length = ps.length → psp ds c Q → p (endP Q) (startP N ds) c) : OkG P w K mg base CX0 (k + 1) x ps (spP K ps.length psp) :=
  OkG.mk0 F g S (fun vs H Q E h => spP_len h) hb fun f cdv A outer s H vs Q E hr gd h => by
    obtain ⟨t, p, ht, hl, hq⟩ := hbody f cdv A outer s H E hr gd
    exact ⟨t, ht, body_ok hl hq h⟩
theorem okPM {q : Str} {a : Addr} (F : ∃ fd, FunD K x q (defArgs st) (defBody st) (defScope st) [] [] a fd) (S : FnScope N ps (defScope st))
    (hb : ∀ (kV doc pm : Value) (an : Option Addr) (cdv ct : Value) (us : List Value), us.length = ps.length → bindArgs (PySem.W.fnOf x q (defArgs st) (defBody st) (defScope st) .none kV doc pm an cdv ct) ⟨us, []⟩ = pure (ps.zip us))
    (hbody : ∀ (f : Addr) (cdv : Value) (A : Around) (outer : List Env) (s : Shared) (H : Hp) (E : XK), Room k (A.deeper (envOfC q (defScope st) s.heap.objs.size f cdv)) →
      ∃ t p, PSs (cxOf CX0 P w K mg base N q (defScope st) f cdv A outer s H E).nox (defBody st) t ∧ LS K t p ∧ ∀ ds c Q, ds.length = ps.length → psp ds c Q → p (endP Q) (startP N ds) c) : OkM P w K mg base CX0 (k + 1) a ps (spP K ps.length psp) :=
  OkM.mk0 F S (fun vs H Q E h => spP_len h) hb fun f cdv A outer s H vs Q E hr h => by
    obtain ⟨t, p, ht, hl, hq⟩ := hbody f cdv A outer s H E hr
    exact ⟨t, ht, body_ok hl hq h⟩
/-- an older promise, by data -/
theorem Ok.imp {sp sp' : Sp} (O : Ok P w K mg base CX0 k x ps sp) (h : ∀ vs H Q E, sp' vs H Q E → sp vs H Q E) : Ok P w K mg base CX0 k x ps sp' :=
  let ⟨fd, F, B⟩ := O.ex
  ⟨⟨fd, F.imp h, B⟩, O.kp, O.at_⟩
theorem OkG.imp {sp sp' : Sp} (O : OkG P w K mg base CX0 k x ps sp) (h : ∀ vs H Q E, sp' vs H Q E → sp vs H Q E) : OkG P w K mg base CX0 k x ps sp' :=
  let ⟨fd, F, B⟩ := O.ex
  ⟨⟨fd, ⟨fun vs H Q E q => F.len vs H Q E (h _ _ _ _ q), fun A outer s H args us vs Q E hr gd he hb hv hs => F.go A outer s H args us vs Q E hr gd he hb hv (h _ _ _ _ hs)⟩, B⟩, O.kp, O.at_⟩
theorem OkM.imp {a : Addr} {sp sp' : Sp} (O : OkM P w K mg base CX0 k a ps sp) (h : ∀ vs H Q E, sp' vs H Q E → sp vs H Q E) : OkM P w K mg base CX0 k a ps sp' :=
  let ⟨fd, F, B⟩ := O.ex
  ⟨⟨fd, F.imp h, B⟩⟩
end
section
variable {K : PySem.W.Frag} {w w' w0 : Wd} {c c' : Om} {H H' H0 : Hp}
/-- a call that keeps the heap, and gives a scalar -/
theorem same_le (s : Same H H') : Le w H w H' := ⟨fun _ h => h, fun _ h => h, fun _ h => .inl h, fun _ h => .inl h, fun a o _ h => s a o h⟩
theorem same_ok (o : WOk w c H) (s : Same H H') : WOk w c H' := ⟨o.sz, fun a z => let ⟨u, h, n⟩ := o.al a z; ⟨u, s _ _ h, n⟩, fun a z => (o.br a z).same s⟩
/-- a call that draws -/
theorem but_le {a : Addr} (b : But a H H') (h : w.S a) : Le w H w H' := ⟨fun _ h => h, fun _ h => h, fun _ h => .inl h, fun _ h => .inl h, fun d o n e => b d o (fun z => n (by rw [z]; exact h)) e⟩
theorem but_ok {a : Addr} {n : Nat} (o : WOk w c H) (b : But a H H') (B : Br a n H') (hn : c.n ≤ n) : WOk w ⟨n⟩ H' where
  sz := o.sz
  al := fun d z => by
    by_cases e : d = a
    · subst e
      obtain ⟨u, h1, x, y, z, e2, _⟩ := B
      exact ⟨u, h1, fun xs q => by rw [e2] at q; cases q⟩
    · obtain ⟨u, h, nn⟩ := o.al d z
      exact ⟨u, b d u e h, nn⟩
  br := fun d z => by
    by_cases e : d = a
    · rw [e]
      exact B
    · obtain ⟨u, h, b3⟩ := o.br d z
      exact ⟨u, b d u e h, b3.mono hn⟩
/-- a new brook -/
theorem brk_new {p : Addr} {o : HO} (k : WOk w c H) (np : H p = none) (h : Br3 o 0) : let w2 : Wd := ⟨fun a => w.Z a ∨ a = p, fun a => w.S a ∨ a = p⟩; Le w H w2 (upd H p o) ∧ WOk w2 c (upd H p o) ∧ RP K w2 (upd H p o) (.ref p) .brk :=
  ⟨⟨fun _ h => .inl h, fun _ h => .inl h, fun _ h => h.imp id fun e => by rw [e]; exact np, fun _ h => h.imp id fun e => by rw [e]; exact np, fun _ _ _ h => upd_new np h⟩,
   ⟨fun a h => h.imp (k.sz a) id, fun a z => by
      by_cases e : a = p
      · subst e
        obtain ⟨x, y, z, e2, _⟩ := h
        exact ⟨o, upd_same, fun xs q => by rw [e2] at q; cases q⟩
      · rcases z with z | z
        · obtain ⟨u, h1, n1⟩ := k.al a z
          exact ⟨u, upd_new np h1, n1⟩
        · exact absurd z e, fun a s => by
      by_cases e : a = p
      · rw [e]
        exact Br.put (h.mono (Nat.zero_le _))
      · rcases s with s | s
        · exact (k.br a s).new np
        · exact absurd s e⟩, .brk (.inr rfl)⟩
/-- a tuple that an older promise tells of is shown -/
theorem WOk.tup {a : Addr} {xs : List V} {ds : List D} (o : WOk w c H) (h : H a = some (.tup xs)) (r : RPs K w H xs ds) : RP K w H (.ref a) (.tup ds) := .tup (by rw [cut_at (o.nt h)]; exact h) r
theorem WOk.tupI {a : Addr} {ns : List Int} (o : WOk w c H) (h : H a = some (.tup (ns.map V.int))) : RP K w H (.ref a) (.tup (ns.map .int)) := o.tup h (Reps.of_ints ns)
theorem RP.tup {a : V} {ds : List D} (h : RP K w H a (.tup ds)) : ∃ p xs, a = .ref p ∧ H p = some (.tup xs) ∧ RPs K w H xs ds := by
  cases h with
  | tup e r => exact ⟨_, _, rfl, cut_same _ _ e, r⟩
theorem RP.brk {a : V} (h : RP K w H a .brk) : ∃ p, a = .ref p ∧ w.S p := by
  cases h with
  | brk s => exact ⟨_, rfl, s⟩
theorem RP.int {a : V} {i : Int} (h : RP K w H a (.int i)) : a = .int i := RB.int (.inl h)
theorem RP.str {a : V} {i : Str} (h : RP K w H a (.str i)) : a = .str i := RB.str (.inl h)
theorem RP.bl {a : V} {i : Bool} (h : RP K w H a (.bl i)) : a = .bl i := RB.bl (.inl h)
theorem RP.tupI {a : V} {ns : List Int} (h : RP K w H a (.tup (ns.map .int))) : ∃ p, a = .ref p ∧ H p = some (.tup (ns.map V.int)) := by
  obtain ⟨p, xs, rfl, e, r⟩ := RP.tup h
  rw [r.ints] at e
  exact ⟨p, rfl, e⟩
end
/-- a class's making, by data -/
class MkP (K : PySem.W.Frag) (C : Addr) (sp : Sp) (n : outParam Nat) (psp : outParam PSp) : Prop where
  run : ∀ vs H Q, spP K n psp vs H Q E0 → ∀ x dx, H x = none → H dx = none → dx ≠ x → sp (.ref x :: vs) (upd (upd H dx (.own x)) x (.ins C dx [])) (fun v H2 => v = .non ∧ Q (.ref x) H2) E0
instance {K : PySem.W.Frag} {C : Addr} {sp : Sp} {n : Nat} {psp : PSp} {ta : TA} {pa : PX (List D)} [hm : MkP K C sp n psp] [ha : LA K ta pa] : LE K (tMk C sp E0 ta) (pCal n psp pa) where
  run := fun w0 H0 c0 w c H σ ρ Qp Q k0 R p k => ha.run w0 H0 c0 w c H σ ρ _ _ k0 R p fun x a w1 c1 H1 l1 o1 r1 q1 =>
    hm.run x H1 Q ⟨w1, c1, a, Qp, o1, r1, q1.1, q1.2, fun v d w2 c2 H2 l2 o2 r2 q2 => k v d w2 c2 H2 (l1.trans R.ok l2) o2 r2 q2⟩
/-! ### weaves -/
def dW (l : List Nat) (n : Nat) : D := .ins "Weave" ["own_letters", "own_shape"] [.str (sg l), .tup ((cnts l n).map .int)]
def dSh (sh : List Int) : D := .tup (sh.map .int)
def dPr (p : Int × Int) : D := .tup [.int p.1, .int p.2]
def dBox (bx : List (Int × Int)) : D := .tup (bx.map dPr)
end WP
namespace WP
open PySem PySem.Spec PyProof.Rows L2 WK
theorem ps_ownLc {X : Cx} {st : Stmt} {te : TE} {i : Nat} (h : PS X st (tAsg te (gName i))) : PS X st (tAsg (tOwn te) (gName i)) := h
/-! ### readings laid out -/
theorem getD0 {α : Type} {x : α} {xs : List α} {d : α} : (x :: xs).getD 0 d = x := rfl
theorem startP_eq {N : List Str} {ds : List D} : startP N ds = ds.map (fun d => some (.val d)) ++ List.replicate (N.length - ds.length) none := rfl
theorem isNon_non : isNonD .non = true := rfl
theorem isNon_int {i : Int} : isNonD (.int i) = false := rfl
theorem isNon_tup {i : List D} : isNonD (.tup i) = false := rfl
theorem isNon_lst {i : List D} : isNonD (.lst i) = false := rfl
theorem isNon_str {i : Str} : isNonD (.str i) = false := rfl
theorem isNon_bl {i : Bool} : isNonD (.bl i) = false := rfl
theorem lenD_lst {xs : List D} {n : Nat} : LenD (.lst xs) n = (n = xs.length) := rfl
theorem lenD_tup {xs : List D} {n : Nat} : LenD (.tup xs) n = (n = xs.length) := rfl
theorem lenD_slst {xs : List Int} {n : Nat} : LenD (.slst xs) n = (n = xs.length) := rfl
theorem lenD_str {x : Str} {n : Nat} : LenD (.str x) n = (x.length ≤ sizeLine ∧ n = x.length) := rfl
theorem dV_int {i : Int} : dV (.int i) = .int i := rfl
theorem dV_bl {i : Bool} : dV (.bl i) = .bl i := rfl
theorem dV_str {i : Str} : dV (.str i) = .str i := rfl
theorem dV_non : dV .non = .non := rfl
theorem sl_val {d : D} : (Sl.val d).d = d := rfl
theorem sl_own {xs : List D} : (Sl.own xs).d = .lst xs := rfl
theorem isObj_val {d : D} : (Sl.val d).isObj = false := rfl
theorem isObj_own {xs : List D} : (Sl.own xs).isObj = false := rfl
theorem lst_tup {xs : List D} : tupD (.tup xs) = some xs := rfl
theorem lst_lst {xs : List D} : lstD (.lst xs) = some xs := rfl
theorem seq_lst {xs : List D} : seqD (.lst xs) = some xs := rfl
theorem seq_tup {xs : List D} : seqD (.tup xs) = some xs := rfl
theorem kind_t {d : D} : kindD true d = lstD d := rfl
theorem kind_f {d : D} : kindD false d = tupD d := rfl
theorem ty_str {x : Str} : isStrD (.str x) = True := rfl
theorem ty_lst {x : List D} : isLstD (.lst x) = True := rfl
theorem frz_own {ρ : PSt} {i : Nat} {xs : List D} (h : ρ[i]? = some (some (.own xs))) : frz ρ i = ρ.set i (some (.val (.lst xs))) := by
  unfold frz
  rw [h]
theorem frz_cons {s : Option Sl} {ρ : PSt} {i : Nat} : frz (s :: ρ) (i + 1) = s :: frz ρ i := by
  unfold frz
  rw [List.getElem?_cons_succ]
  cases h : ρ[i]? with
  | none => rfl
  | some t =>
    cases t with
    | none => rfl
    | some t =>
      cases t with
      | val d => rfl
      | own xs => rfl
      | obj a C ks vs => rfl
theorem frz_0o {ρ : PSt} {xs : List D} : frz (some (.own xs) :: ρ) 0 = some (.val (.lst xs)) :: ρ := rfl
theorem frz_0v {ρ : PSt} {d : D} : frz (some (.val d) :: ρ) 0 = some (.val d) :: ρ := rfl
theorem frz_0n {ρ : PSt} : frz (none :: ρ) 0 = none :: ρ := rfl
theorem wipeP_nil {ρ : PSt} : wipeP ρ [] = ρ := rfl
theorem wipeP_cons {ρ : PSt} {v : Nat} {vs : List Nat} : wipeP ρ (v :: vs) = (wipeP ρ vs).set v none := rfl
theorem tup_len {xs : List D} {n : Nat} : (∃ ds, D.tup xs = .tup ds ∧ ds.length = n ∧ True) = (xs.length = n) := by simp
theorem lk_1 {k : Str} {ks : List Str} {d : D} {ds : List D} : lookD k (k :: ks) (d :: ds) = some d := by
  rw [lookD, if_pos rfl]
end WP
/-! ## the pure layer, part 6: loops and comprehensions over rows that are told; the weave and the brook -/
namespace WP
open PySem PySem.Spec PyProof.Rows L2 WK
theorem ploop_m {α : Type} {L : List α} {f : α → D} {pg : PG'} {pb : PSs'} {Dp : PEnds} {ρ : PSt} {c : Om} (I : Nat → PSt → Om → Prop) (h0 : I 0 ρ c)
    (hs : ∀ (i : Nat) (e : α) ρ' c', L[i]? = some e → I i ρ' c' → pg (f e) ρ' c' fun ρ2 c2 => pb { Dp with nx := I (i + 1), ct := I (i + 1), bk := Dp.nx } ρ2 c2) (hd : ∀ ρ' c', I L.length ρ' c' → Dp.nx ρ' c') : PLoop (L.map f) pg pb Dp ρ c :=
  ⟨I, h0, fun i x ρ' c' hx hi => by
    rw [List.getElem?_map] at hx
    obtain ⟨e, he, rfl⟩ := Option.map_eq_some_iff.mp hx
    exact hs i e ρ' c' he hi, fun ρ' c' h => hd ρ' c' (by rw [List.length_map] at h; exact h)⟩
theorem ploop_r {n : Nat} {lo : Int} {pg : PG'} {pb : PSs'} {Dp : PEnds} {ρ : PSt} {c : Om} (I : Nat → PSt → Om → Prop) (h0 : I 0 ρ c)
    (hs : ∀ (i : Nat) ρ' c', i < n → I i ρ' c' → pg (.int (lo + i)) ρ' c' fun ρ2 c2 => pb { Dp with nx := I (i + 1), ct := I (i + 1), bk := Dp.nx } ρ2 c2) (hd : ∀ ρ' c', I n ρ' c' → Dp.nx ρ' c') : PLoop (rangeD lo n) pg pb Dp ρ c :=
  ploop_m I h0 (fun i e ρ' c' he hi => by
    have h := (List.getElem?_eq_some_iff.mp he).1
    rw [List.length_range] at h
    rw [List.getElem?_range h] at he
    cases he
    exact hs i ρ' c' h hi) fun ρ' c' h => hd ρ' c' (by rw [List.length_range] at h; exact h)
theorem ploop_r0 {n : Nat} {pg : PG'} {pb : PSs'} {Dp : PEnds} {ρ : PSt} {c : Om} (I : Nat → PSt → Om → Prop) (h0 : I 0 ρ c)
    (hs : ∀ (i : Nat) ρ' c', i < n → I i ρ' c' → pg (.int (i : Int)) ρ' c' fun ρ2 c2 => pb { Dp with nx := I (i + 1), ct := I (i + 1), bk := Dp.nx } ρ2 c2) (hd : ∀ ρ' c', I n ρ' c' → Dp.nx ρ' c') : PLoop (rangeD 0 n) pg pb Dp ρ c :=
  ploop_r I h0 (fun i ρ' c' h hi => by rw [Int.zero_add]; exact hs i ρ' c' h hi) hd
/-- a comprehension whose items are reckoned -/
theorem pcomp_f {α : Type} {L : List α} {f g : α → D} {pg : PG'} {pe : PX D} {vs : List Nat} {ρ : PSt} {c : Om} {Q : List D → Om → Prop} (hn : L.length ≤ 16777216)
    (hs : ∀ (i : Nat) (e : α) (R : D → Om → Prop), L[i]? = some e → R (g e) c → pg (f e) (wipeP ρ vs) c fun ρ2 c2 => pe ρ2 c2 R) (hq : Q (L.map g) c) : PComp (L.map f) pg pYes pe vs ρ c Q := by
  refine ⟨fun i acc c' => c' = c ∧ acc = (L.take i).map g, ⟨rfl, rfl⟩, ?_, fun acc c' h => ?_⟩
  · rintro i x acc c' hx ⟨rfl, rfl⟩
    rw [List.getElem?_map] at hx
    obtain ⟨e, he, rfl⟩ := Option.map_eq_some_iff.mp hx
    refine hs i e _ he ⟨?_, rfl, ?_⟩
    · rw [List.length_map, List.length_take]
      have := (List.getElem?_eq_some_iff.mp he).1
      show _ < sizeLine
      rw [sizeLine_eq]
      omega
    · rw [take_snocG he, List.map_append]
      rfl
  · obtain ⟨rfl, rfl⟩ := h
    rw [List.length_map, List.take_length]
    exact hq
theorem pcomp_r {n : Nat} {lo : Int} {g : Nat → D} {pg : PG'} {pe : PX D} {vs : List Nat} {ρ : PSt} {c : Om} {Q : List D → Om → Prop} (hn : n ≤ 16777216)
    (hs : ∀ (i : Nat) (R : D → Om → Prop), i < n → R (g i) c → pg (.int (lo + i)) (wipeP ρ vs) c fun ρ2 c2 => pe ρ2 c2 R) (hq : Q ((List.range n).map g) c) : PComp (rangeD lo n) pg pYes pe vs ρ c Q :=
  pcomp_f (by rw [List.length_range]; exact hn) (fun i e R he h => by
    have hi := (List.getElem?_eq_some_iff.mp he).1
    rw [List.length_range] at hi
    rw [List.getElem?_range hi] at he
    cases he
    exact hs i R hi h) hq
/-- .. with a test -/
theorem pcomp_p {α : Type} {L : List α} {f g : α → D} (p : α → Bool) {pg : PG'} {pt : PX Bool} {pe : PX D} {vs : List Nat} {ρ : PSt} {c : Om} {Q : List D → Om → Prop} (hn : L.length ≤ 16777216)
    (hs : ∀ (i : Nat) (e : α) (R : D → Om → Prop) (N : Om → Prop), L[i]? = some e → (p e = true → R (g e) c) → (p e = false → N c) → pg (f e) (wipeP ρ vs) c fun ρ2 c2 => pt ρ2 c2 fun b c3 => if b = true then pe ρ2 c3 R else N c3) (hq : Q ((L.filter p).map g) c) : PComp (L.map f) pg pt pe vs ρ c Q := by
  refine ⟨fun i acc c' => c' = c ∧ acc = ((L.take i).filter p).map g, ⟨rfl, rfl⟩, ?_, fun acc c' h => ?_⟩
  · rintro i x acc c' hx ⟨rfl, rfl⟩
    rw [List.getElem?_map] at hx
    obtain ⟨e, he, rfl⟩ := Option.map_eq_some_iff.mp hx
    have hi := (List.getElem?_eq_some_iff.mp he).1
    have hl := List.length_filter_le p (L.take i)
    rw [List.length_take] at hl
    refine hs i e _ _ he (fun hp => ⟨?_, rfl, ?_⟩) fun hp => ⟨rfl, ?_⟩
    · rw [List.length_map]
      show _ < sizeLine
      rw [sizeLine_eq]
      omega
    · rw [take_snocG he, List.filter_append, List.filter_cons, if_pos hp, List.map_append]
      rfl
    · rw [take_snocG he, List.filter_append, List.filter_cons, hp, if_neg Bool.false_ne_true, List.filter_nil, List.append_nil]
  · obtain ⟨rfl, rfl⟩ := h
    rw [List.length_map, List.take_length]
    exact hq
/-! ### items -/
theorem at_map {α : Type} (f : α → D) {xs : List α} {i : Int} {k : Nat} {x : α} (e : i = (k : Int)) (h : xs[k]? = some x) : atI (xs.map f) i = some (f x) := at_nat e (by rw [List.getElem?_map, h]; rfl)
theorem get_some {α : Type} {xs : List α} {k : Nat} {d : α} (h : k < xs.length) : xs[k]? = some (xs.getD k d) := by
  rw [List.getD_eq_getElem?_getD, List.getElem?_eq_getElem h]
  rfl
theorem at_int {cs : List Int} {k : Nat} (h : k < cs.length) : atI (cs.map D.int) (k : Int) = some (.int (cs.getD k 0)) := at_map _ rfl (get_some h)
theorem at_pr {bx : List (Int × Int)} {k : Nat} (h : k < bx.length) : atI (bx.map dPr) (k : Int) = some (dPr (bx.getD k (0, 0))) := at_map _ rfl (get_some h)
theorem at_d {xs : List D} {k : Nat} {d : D} (h : xs[k]? = some d) : atI xs (k : Int) = some d := at_nat rfl h
theorem atI_0 {α : Type} {x : α} {xs : List α} : atI (x :: xs) 0 = some x := at_nat (j := 0) rfl rfl
theorem atI_1 {α : Type} {x y : α} {xs : List α} : atI (x :: y :: xs) 1 = some y := at_nat (j := 1) rfl rfl
theorem atI_2 {α : Type} {x y z : α} {xs : List α} : atI (x :: y :: z :: xs) 2 = some z := at_nat (j := 2) rfl rfl
theorem atI_3 {α : Type} {x y z u : α} {xs : List α} : atI (x :: y :: z :: u :: xs) 3 = some u := at_nat (j := 3) rfl rfl
section
variable {b : Bool} {i : Int} {x : Str} {xs : List D}
theorem okTy_int : okTy "int" = true := by decide
theorem isTy_non_int : isTyD (D.non) "int" = false := by simp [isTyD, tyD]
theorem isTy_bl_int : isTyD (D.bl b) "int" = true := by simp [isTyD, tyD]
theorem isTy_int_int : isTyD (D.int i) "int" = true := by simp [isTyD, tyD]
theorem isTy_str_int : isTyD (D.str x) "int" = false := by simp [isTyD, tyD]
theorem isTy_tup_int : isTyD (D.tup xs) "int" = false := by simp [isTyD, tyD]
theorem isTy_lst_int : isTyD (D.lst xs) "int" = false := by simp [isTyD, tyD]
theorem okTy_bool : okTy "bool" = true := by decide
theorem isTy_non_bool : isTyD (D.non) "bool" = false := by simp [isTyD, tyD]
theorem isTy_bl_bool : isTyD (D.bl b) "bool" = true := by simp [isTyD, tyD]
theorem isTy_int_bool : isTyD (D.int i) "bool" = false := by simp [isTyD, tyD]
theorem isTy_str_bool : isTyD (D.str x) "bool" = false := by simp [isTyD, tyD]
theorem isTy_tup_bool : isTyD (D.tup xs) "bool" = false := by simp [isTyD, tyD]
theorem isTy_lst_bool : isTyD (D.lst xs) "bool" = false := by simp [isTyD, tyD]
theorem okTy_str : okTy "str" = true := by decide
theorem isTy_non_str : isTyD (D.non) "str" = false := by simp [isTyD, tyD]
theorem isTy_bl_str : isTyD (D.bl b) "str" = false := by simp [isTyD, tyD]
theorem isTy_int_str : isTyD (D.int i) "str" = false := by simp [isTyD, tyD]
theorem isTy_str_str : isTyD (D.str x) "str" = true := by simp [isTyD, tyD]
theorem isTy_tup_str : isTyD (D.tup xs) "str" = false := by simp [isTyD, tyD]
theorem isTy_lst_str : isTyD (D.lst xs) "str" = false := by simp [isTyD, tyD]
theorem okTy_tuple : okTy "tuple" = true := by decide
theorem isTy_non_tuple : isTyD (D.non) "tuple" = false := by simp [isTyD, tyD]
theorem isTy_bl_tuple : isTyD (D.bl b) "tuple" = false := by simp [isTyD, tyD]
theorem isTy_int_tuple : isTyD (D.int i) "tuple" = false := by simp [isTyD, tyD]
theorem isTy_str_tuple : isTyD (D.str x) "tuple" = false := by simp [isTyD, tyD]
theorem isTy_tup_tuple : isTyD (D.tup xs) "tuple" = true := by simp [isTyD, tyD]
theorem isTy_lst_tuple : isTyD (D.lst xs) "tuple" = false := by simp [isTyD, tyD]
theorem okTy_list : okTy "list" = true := by decide
theorem isTy_non_list : isTyD (D.non) "list" = false := by simp [isTyD, tyD]
theorem isTy_bl_list : isTyD (D.bl b) "list" = false := by simp [isTyD, tyD]
theorem isTy_int_list : isTyD (D.int i) "list" = false := by simp [isTyD, tyD]
theorem isTy_str_list : isTyD (D.str x) "list" = false := by simp [isTyD, tyD]
theorem isTy_tup_list : isTyD (D.tup xs) "list" = false := by simp [isTyD, tyD]
theorem isTy_lst_list : isTyD (D.lst xs) "list" = true := by simp [isTyD, tyD]
theorem isTy_dic_int {ks vs : List D} : isTyD (D.dic ks vs) "int" = false := by simp [isTyD, tyD]
theorem isTy_dic_bool {ks vs : List D} : isTyD (D.dic ks vs) "bool" = false := by simp [isTyD, tyD]
theorem isTy_dic_str {ks vs : List D} : isTyD (D.dic ks vs) "str" = false := by simp [isTyD, tyD]
theorem isTy_dic_tuple {ks vs : List D} : isTyD (D.dic ks vs) "tuple" = false := by simp [isTyD, tyD]
theorem isTy_dic_list {ks vs : List D} : isTyD (D.dic ks vs) "list" = false := by simp [isTyD, tyD]
theorem plain_non {K : PySem.W.Frag} : plainQ K (D.non) = True := eq_true rfl
theorem plain_bl {K : PySem.W.Frag} : plainQ K (D.bl b) = True := eq_true rfl
theorem plain_int {K : PySem.W.Frag} : plainQ K (D.int i) = True := eq_true rfl
theorem plain_str {K : PySem.W.Frag} : plainQ K (D.str x) = True := eq_true rfl
theorem plain_tup {K : PySem.W.Frag} : plainQ K (D.tup xs) = True := eq_true rfl
theorem plain_dic {K : PySem.W.Frag} {ks vs : List D} : plainQ K (D.dic ks vs) = True := eq_true rfl
theorem plain_lst {K : PySem.W.Frag} : plainQ K (D.lst xs) = True := eq_true rfl
end
theorem dPr_eq {p : Int × Int} : dPr p = .tup [.int p.1, .int p.2] := rfl
theorem dBox_eq {bx : List (Int × Int)} : dBox bx = .tup (bx.map dPr) := rfl
theorem dSh_eq {sh : List Int} : dSh sh = .tup (sh.map .int) := rfl
theorem dW_eq {l : List Nat} {n : Nat} : dW l n = .ins "Weave" ["own_letters", "own_shape"] [.str (sg l), .tup ((cnts l n).map .int)] := rfl
def sq_Weave_letters : PSp := fun ds c Q => ∃ (l : List Nat) (n : Nat), ds = [dW l n] ∧ Q (.str (sg l)) c
def sq_Weave_shape : PSp := fun ds c Q => ∃ (l : List Nat) (n : Nat), ds = [dW l n] ∧ Q (dSh (cnts l n)) c
def sq_require_weave : PSp := fun ds c Q => ∃ (l : List Nat) (n : Nat), ds = [dW l n] ∧ Q .non c
theorem map_int_inj {a b : List Int} (h : a.map D.int = b.map D.int) : a = b := by
  induction a generalizing b with
  | nil =>
    cases b with
    | nil => rfl
    | cons y b => cases h
  | cons x a ih =>
    cases b with
    | nil => cases h
    | cons y b =>
      rw [List.map_cons, List.map_cons, List.cons.injEq] at h
      have h1 := h.1
      cases h1
      rw [ih h.2]
theorem dW_inj {l l' : List Nat} {n n' : Nat} (h : dW l n = dW l' n') : l = l' ∧ cnts l n = cnts l' n' := by
  unfold dW at h
  simp only [D.ins.injEq, List.cons.injEq, D.str.injEq, D.tup.injEq, and_true, true_and] at h
  exact ⟨sg_inj.mp h.1, map_int_inj h.2⟩
theorem letters_eq {l : List Nat} {n : Nat} {c : Om} {Q : D → Om → Prop} : sq_Weave_letters [dW l n] c Q = Q (.str (sg l)) c := propext ⟨fun ⟨l', n', e, q⟩ => by
  rw [List.cons.injEq] at e
  rw [(dW_inj e.1).1]
  exact q, fun q => ⟨l, n, rfl, q⟩⟩
theorem shape_eq {l : List Nat} {n : Nat} {c : Om} {Q : D → Om → Prop} : sq_Weave_shape [dW l n] c Q = Q (dSh (cnts l n)) c := propext ⟨fun ⟨l', n', e, q⟩ => by
  rw [List.cons.injEq] at e
  rw [(dW_inj e.1).2]
  exact q, fun q => ⟨l, n, rfl, q⟩⟩
theorem rqw_eq {l : List Nat} {n : Nat} {c : Om} {Q : D → Om → Prop} : sq_require_weave [dW l n] c Q = Q .non c := propext ⟨fun ⟨l', n', e, q⟩ => q, fun q => ⟨l, n, rfl, q⟩⟩
theorem prp_eq {C : Str} {l : List Nat} {n : Nat} {P : Prop} : (∃ ks ds, dW l n = .ins C ks ds ∧ P) = (("Weave" : Str) = C ∧ P) := by
  rw [dW_eq]
  apply propext
  constructor
  · rintro ⟨ks, ds, e, p⟩
    simp only [D.ins.injEq] at e
    exact ⟨e.1, p⟩
  · rintro ⟨rfl, p⟩
    exact ⟨_, _, rfl, p⟩
theorem flat_one (d : D) : ∀ n : Nat, (List.replicate n [d]).flatten = List.replicate n d
  | 0 => rfl
  | n + 1 => by
    rw [List.replicate_succ, List.flatten_cons, flat_one d n]
    rfl
theorem ixN_nat {n k : Nat} (h : k < n) : ixN n (k : Int) = some k := by
  unfold ixN
  rw [if_pos (by omega), if_pos (by omega), Int.toNat_natCast]
theorem zipD_map {α β : Type} (f : α → D) (g : β → D) (xs : List α) (ys : List β) : zipD (xs.map f) (ys.map g) = (xs.zip ys).map fun p => .tup [f p.1, g p.2] := by
  unfold zipD
  rw [List.zip_map, List.map_map]
  rfl
theorem enum_map {α : Type} (f : α → D) (L : List α) : zipD (rangeD 0 L.length) (L.map f) = ((List.range L.length).zip L).map fun p => .tup [.int ((p.1 : Nat) : Int), f p.2] := by
  unfold rangeD
  rw [zipD_map]
  refine List.map_congr_left fun p _ => ?_
  rw [Int.zero_add]
theorem enum_range (n : Nat) (g : Nat → D) : zipD (rangeD 0 n) ((List.range n).map g) = (List.range n).map fun j => .tup [.int ((j : Nat) : Int), g j] := by
  apply List.ext_getElem?
  intro k
  by_cases hk : k < n
  · rw [zipD_at (range_at hk) (show ((List.range n).map g)[k]? = some (g k) by rw [List.getElem?_map, List.getElem?_range hk]; rfl), List.getElem?_map, List.getElem?_range hk, Int.zero_add]
    rfl
  · rw [List.getElem?_eq_none (by rw [zipD_len, List.length_map, List.length_range]; omega), List.getElem?_eq_none (by rw [List.length_map, List.length_range]; omega)]
theorem cutS_from (l : List Nat) {k : Nat} (h : k ≤ l.length) : cutS (sg l) (some (k : Int)) none = sg (l.drop k) := by
  unfold cutS
  have e : HT.sIx (sg l).length 0 (some (k : Int)) = k := by
    show (if (k : Int) < 0 then ((k : Int) + ((sg l).length : Int)).toNat else min (k : Int).toNat (sg l).length) = k
    rw [if_neg (by omega), sg_len]
    omega
  rw [e, HT.sIx_none, sg_len, sg_cps, List.take_of_length_le (by rw [List.length_drop]; omega)]
  rfl
section
variable {K : PySem.W.Frag} {w w' w0 : Wd} {c c' : Om} {H H' H0 : Hp}
/-- a weave, by data -/
theorem RP.weave {v : V} {l : List Nat} {n : Nat} (h : RP K w H v (dW l n)) : ∃ x dx sh, v = .ref x ∧ H x = some (.ins (He.ga K "Weave") dx [("own_letters", .str (sg l)), ("own_shape", sh)]) ∧ RP K w H sh (dSh (cnts l n)) := by
  cases h with
  | @ins a dx _ fs _ _ e k r =>
    match fs, k, r with
    | [(_, u1), (_, u2)], rfl, .cons r1 (.cons r2 .nil) =>
      cases r1
      exact ⟨a, dx, u2, rfl, cut_same _ _ e, r2⟩
theorem WOk.weave {x : Addr} {l : List Nat} {n : Nat} (o : WOk w c H) (h : shp K H x l n) (nx : ¬ w.Z x) : RP K w H (.ref x) (dW l n) := by
  obtain ⟨dx, sh, h1, h2⟩ := h
  exact .ins (fs := [("own_letters", .str (sg l)), ("own_shape", .ref sh)]) (by rw [cut_at nx]; exact h1) rfl (.cons (.str _) (.cons (o.tupI h2) .nil))
end
end WP
namespace WP
open PySem PySem.Spec PyProof.Rows L2 WK
section
variable {K : PySem.W.Frag} {w w' w0 : Wd} {c c' : Om} {H H' H0 : Hp}
theorem RPs.prs : ∀ {bx : List (Int × Int)} {xs : List V}, RPs K w H xs (bx.map dPr) → TupsAt H xs (bx.map prV)
  | [], _, .nil => .nil
  | p :: bx, _, .cons a b => by
    obtain ⟨q, ys, rfl, e, r⟩ := RP.tup a
    rw [RPs.ints2 r] at e
    exact (TupsAt.one e).app (RPs.prs b)
/-- a box, as an older promise tells of it -/
theorem RP.box {a : V} {bx : List (Int × Int)} (h : RP K w H a (dBox bx)) : ∃ p, a = .ref p ∧ BoxAt H p bx := by
  obtain ⟨p, xs, rfl, e, r⟩ := RP.tup h
  exact ⟨p, rfl, xs, e, RPs.prs r⟩
theorem WOk.prs (o : WOk w c H) : ∀ {bx : List (Int × Int)} {xs : List V}, TupsAt H xs (bx.map prV) → RPs K w H xs (bx.map dPr)
  | [], [], _ => .nil
  | [], _ :: _, h => nomatch h.1
  | _ :: _, [], h => nomatch h.1
  | p :: bx, x :: xs, h => by
    obtain ⟨a, e, ha⟩ := h.2 0 x (prV p) rfl rfl
    subst e
    refine .cons (o.tup ha (.cons (.int _) (.cons (.int _) .nil))) (WOk.prs o ⟨?_, fun j y t hy ht => h.2 (j + 1) y t hy ht⟩)
    have := h.1
    simp only [List.map_cons, List.length_cons] at this
    omega
theorem WOk.box {a : Addr} {bx : List (Int × Int)} (o : WOk w c H) (h : BoxAt H a bx) : RP K w H (.ref a) (dBox bx) := by
  obtain ⟨xs, e, t⟩ := h
  exact o.tup e (o.prs t)
/-- the end of a call that draws -/
theorem draw_q {a : Addr} {k : Nat} {Q : VK} {Qp : D → Om → Prop} {v : V} {d : D} (o : WOk w c H) (hs : w.S a) (kk : ∀ v d w' c' H', Le w H w' H' → WOk w' c' H' → RP K w' H' v d → Qp d c' → Q v H') (b : But a H H') (B : Br a (c.n + k) H') (r : WOk w (c.add k) H' → RP K w H' v d) (q : Qp d (c.add k)) : Q v H' :=
  have o2 : WOk w (c.add k) H' := but_ok o b B (Nat.le_add_right _ _)
  kk v d w (c.add k) H' (but_le b hs) o2 (r o2) q
end
end WP
namespace WP
open PySem PySem.Spec PyProof.Rows L2 WK
theorem toPys_ints (ns : List Int) : toPys (ns.map D.int) = ns.map PyData.int := by
  rw [toPys_map, List.map_map]
  rfl
theorem dats_ints (ns : List Int) : dats (ns.map D.int) = true := by
  rw [dats_all, List.all_map]
  exact List.all_eq_true.mpr fun _ _ => rfl
theorem cmpOk_of {d : D} {h : Nat} (hd : dat d = true) (l : LOk h (toPy d)) (hh : h ≤ 64 := by decide) : cmpOk d := ⟨hd, l.shaped hh⟩
theorem cmp_ints (ns : List Int) : cmpOk (.lst (ns.map D.int)) := cmpOk_of (h := 1) (by rw [dat]; exact dats_ints ns) (by rw [toPy, toPys_ints]; exact LOk.ints)
theorem cmp_nil : cmpOk (.lst []) := cmp_ints []
theorem eqD_nil (xs : List D) : WP.eqD (.lst xs) (.lst []) = xs.isEmpty := by
  cases xs with
  | nil => rfl
  | cons x xs => rfl
theorem eqD_refl {d : D} {h : Nat} (l : LOk h (toPy d)) : WP.eqD d d = true := PySem.SeqAt.eqv_refl _ l.lay
end WP
namespace WP
open PySem PySem.Spec PyProof.Rows L2 WK
theorem cut_none (H : Hp) : cut (fun _ => False) H = H := by
  funext a
  exact cut_at (fun h => h)
/-- the law's own call, by data -/
theorem law_start {K : PySem.W.Frag} {H : Hp} {a : Addr} {ns : List Int} {Q : VK} {E : XK} {psp : PSp} (hS : SqL K H a (ns.map V.int)) (q : ∀ H', Q (.bl true) H') (h : psp [.slst ns] ⟨0⟩ fun d _ => d = .bl true) : spP K 1 psp [.ref a] H Q E := by
  refine ⟨⟨fun _ => False, fun _ => False⟩, ⟨0⟩, [.slst ns], _, ⟨fun _ h => h, fun _ h => h.elim, fun _ h => h.elim⟩, .cons (.slst ?_) .nil, rfl, h, fun v d w' c' H' _ _ r e => ?_⟩
  · show SqL K (cut (fun _ => False) H) a (ns.map V.int)
    rw [cut_none]
    exact hS
  · subst e
    rw [RP.bl r]
    exact q H'
end WP
/-! ### texts of weaves with brackets: parts as a tree (plain) -/
namespace WP
open PySem PySem.Spec PyProof.Rows L2 WK
inductive Pts where
  | nil : Pts
  | lf : Nat → Nat → List Nat → Pts → Pts
  | gr : Pts → Nat → List Nat → Pts → Pts
namespace Pts
/-- the text -/
def tx : Pts → List Nat
  | nil => []
  | lf c _ ds r => c :: (ds ++ r.tx)
  | gr i _ ds r => 40 :: (i.tx ++ 41 :: (ds ++ r.tx))
/-- the letters, written out -/
def lt : Pts → List Nat
  | nil => []
  | lf c t _ r => List.replicate t c ++ r.lt
  | gr i t _ r => (List.replicate t i.lt).flatten ++ r.lt
/-- as data -/
def da : Pts → List D
  | nil => []
  | lf c t _ r => .tup [.str (sg [c]), .int (t : Int)] :: r.da
  | gr i t _ r => .tup [.tup i.da, .int (t : Int)] :: r.da
def ok : Pts → Prop
  | nil => True
  | lf c t ds r => 97 ≤ c ∧ c ≤ 100 ∧ DsOk t ds ∧ r.ok
  | gr i t ds r => i ≠ nil ∧ i.ok ∧ DsOk t ds ∧ r.ok
def ht : Pts → Nat
  | nil => 0
  | lf _ _ _ r => r.ht
  | gr i _ _ r => max (i.ht + 1) r.ht
def sz : Pts → Nat
  | nil => 0
  | lf _ _ _ r => r.sz + 1
  | gr _ _ _ r => r.sz + 1
theorem head {p : Pts} (h : p.ok) {R : List Nat} (hR : R = [] ∨ R[0]? = some 41) (d : Nat) (hd : (p.tx ++ R)[0]? = some d) : ¬ IsDig d := by
  unfold IsDig
  cases p with
  | nil =>
    rw [tx, List.nil_append] at hd
    rcases hR with rfl | hR
    · cases hd
    · rw [hR] at hd
      cases hd
      omega
  | lf c t ds r =>
    have e : c = d := Option.some.inj hd
    have := h.1
    omega
  | gr i t ds r =>
    have e : 40 = d := Option.some.inj hd
    omega
theorem sz_len (p : Pts) : p.da.length = p.sz := by
  induction p with
  | nil => rfl
  | lf c t ds r ih => rw [da, List.length_cons, ih]; rfl
  | gr i t ds r _ ih => rw [da, List.length_cons, ih]; rfl
theorem da_nil {p : Pts} (h : p.da = []) : p = nil := by
  cases p with
  | nil => rfl
  | lf c t ds r => cases h
  | gr i t ds r => cases h
theorem sz_tx (p : Pts) : p.sz ≤ p.tx.length := by
  induction p with
  | nil => exact Nat.le_refl _
  | lf c t ds r ih =>
    rw [tx, sz, List.length_cons, List.length_append]
    omega
  | gr i t ds r _ ih =>
    simp only [tx, sz, List.length_cons, List.length_append]
    omega
theorem lt_pos {p : Pts} (h : p.ok) (hn : p ≠ nil) : 1 ≤ p.lt.length := by
  induction p with
  | nil => exact absurd rfl hn
  | lf c t ds r _ =>
    have := h.2.2.1.most.1
    rw [lt, List.length_append, List.length_replicate]
    omega
  | gr i t ds r ih _ =>
    obtain ⟨h1, h2, h3, h4⟩ := h
    have a := ih h2 h1
    have b := h3.most.1
    rw [lt, List.length_append, List.length_flatten, List.map_replicate, List.sum_replicate_nat]
    have := Nat.mul_le_mul b a
    omega
theorem sz_lt {p : Pts} (h : p.ok) : p.sz ≤ p.lt.length := by
  induction p with
  | nil => exact Nat.le_refl _
  | lf c t ds r ih =>
    have := h.2.2.1.most.1
    have := ih h.2.2.2
    rw [lt, sz, List.length_append, List.length_replicate]
    omega
  | gr i t ds r _ ih =>
    obtain ⟨h1, h2, h3, h4⟩ := h
    have := ih h4
    have a := lt_pos h2 h1
    have b := h3.most.1
    rw [lt, sz, List.length_append, List.length_flatten, List.map_replicate, List.sum_replicate_nat]
    have := Nat.mul_le_mul b a
    omega
theorem in_len {i r : Pts} {t : Nat} {ds : List Nat} (h : 1 ≤ t) : i.lt.length ≤ (gr i t ds r).lt.length := by
  rw [lt, List.length_append, List.length_flatten, List.map_replicate, List.sum_replicate_nat]
  have := Nat.mul_le_mul_right i.lt.length h
  omega
theorem count_fl (t : Nat) (l : List Nat) (c : Nat) : (List.replicate t l).flatten.count c = t * l.count c := by
  rw [List.count_flatten, List.map_replicate, List.sum_replicate_nat]
/-- of letters alone -/
def ofL : List Nat → Pts
  | [] => nil
  | c :: l => lf c 1 [] (ofL l)
theorem ofL_tx : ∀ l : List Nat, (ofL l).tx = l
  | [] => rfl
  | c :: l => by rw [ofL, tx, List.nil_append, ofL_tx l]
theorem ofL_lt : ∀ l : List Nat, (ofL l).lt = l
  | [] => rfl
  | c :: l => by rw [ofL, lt, ofL_lt l]; rfl
theorem ofL_ht : ∀ l : List Nat, (ofL l).ht = 0
  | [] => rfl
  | c :: l => by rw [ofL, ht, ofL_ht l]
theorem ofL_ok : ∀ {l : List Nat}, (∀ c ∈ l, 97 ≤ c ∧ c ≤ 100) → (ofL l).ok
  | [], _ => trivial
  | c :: l, h => ⟨(h c List.mem_cons_self).1, (h c List.mem_cons_self).2, ⟨(fun d hd => by cases hd), (fun _ => rfl), Nat.zero_le _, (fun z => absurd rfl z)⟩, ofL_ok fun d hd => h d (List.mem_cons_of_mem _ hd)⟩
theorem lok_sg {c h : Nat} (hc : c ≤ 100) : LOk h (.str (sg [c])) := ⟨by
  rw [PyData.canLay0]
  show ([c].toArray.all fun x => decide (x < 1114112)) = true
  simp
  omega, Nat.zero_le _⟩
/-- the depth of the data -/
theorem el_ok : ∀ {p : Pts}, p.ok → ∀ d ∈ p.da, dat d = true ∧ LOk (2 * p.ht + 1) (toPy d)
  | nil, _, d, hd => by cases hd
  | lf c t ds r, h, d, hd => by
    rcases List.mem_cons.mp hd with rfl | hd
    · refine ⟨rfl, LOk.tuple fun x hx => ?_⟩
      rcases List.mem_cons.mp hx with rfl | hx
      · exact lok_sg h.2.1
      · rcases List.mem_cons.mp hx with rfl | hx
        · exact LOk.int.mono (Nat.zero_le _)
        · cases hx
    · exact el_ok h.2.2.2 d hd
  | gr i t ds r, h, d, hd => by
    have m1 : i.ht + 1 ≤ (gr i t ds r).ht := Nat.le_max_left _ _
    have m2 : r.ht ≤ (gr i t ds r).ht := Nat.le_max_right _ _
    rcases List.mem_cons.mp hd with rfl | hd
    · have IH := el_ok h.2.1
      refine ⟨?_, ?_⟩
      · rw [dat, dats, dat, dats_all, List.all_eq_true.mpr fun x hx => (IH x hx).1]
        rfl
      · have e : toPy (.tup [.tup i.da, .int (t : Int)]) = .tuple [.tuple (i.da.map toPy), .int (t : Int)] := by
          rw [← toPys_map]
          rfl
        rw [e]
        refine LOk.tuple fun x hx => ?_
        rcases List.mem_cons.mp hx with rfl | hx
        · refine LOk.mono (h := 2 * i.ht + 1 + 1) (LOk.tuple fun y hy => ?_) (by omega)
          obtain ⟨z, hz, rfl⟩ := List.mem_map.mp hy
          exact (IH z hz).2
        · rcases List.mem_cons.mp hx with rfl | hx
          · exact LOk.int.mono (Nat.zero_le _)
          · cases hx
    · exact ⟨(el_ok h.2.2.2 d hd).1, (el_ok h.2.2.2 d hd).2.mono (by omega)⟩
theorem cmp_ok {p : Pts} (h : p.ok) (hh : p.ht ≤ 8) : cmpOk (.tup p.da) := by
  refine cmpOk_of (h := 2 * p.ht + 1 + 1) (by rw [dat, dats_all]; exact List.all_eq_true.mpr fun x hx => (el_ok h x hx).1) ?_ (by omega)
  have e : toPy (.tup p.da) = .tuple (p.da.map toPy) := by
    rw [← toPys_map]
    rfl
  rw [e]
  refine LOk.tuple fun y hy => ?_
  obtain ⟨z, hz, rfl⟩ := List.mem_map.mp hy
  exact (el_ok h z hz).2
end Pts
end WP
/-! ## the pure layer, part 8: objects that are made -/
namespace WP
open PySem PySem.Spec PyProof.Rows L2 WK
/-- what a maker leaves: the fields' names and what they hold -/
abbrev PIn := List D → Om → (List Str → List D → Om → Prop) → Prop
def spI (K : PySem.W.Frag) (C : Str) (n : Nat) (psi : PIn) : Sp := fun vs H Q _ => ∃ w0 H0 c ds, ∃ Qp : List Str → List D → Om → Prop, ∃ a dx us, vs = .ref a :: us ∧ WOk w0 c H0 ∧ H0 a = none ∧ H0 dx = none ∧ dx ≠ a ∧ H = upd (upd H0 dx (.own a)) a (.ins (He.ga K C) dx []) ∧ RPs K w0 H0 us ds ∧ ds.length = n ∧ psi ds c Qp ∧
  ∀ ks fs w' c' H', Le w0 H0 w' H' → WOk w' c' H' → RP K w' H' (.ref a) (.ins C ks fs) → Qp ks fs c' → Q .non H'
theorem spI_len {K : PySem.W.Frag} {C : Str} {n : Nat} {psi : PIn} {vs : List V} {H : Hp} {Q : VK} {E : XK} (h : spI K C n psi vs H Q E) : vs.length = n + 1 := by
  obtain ⟨_, _, _, _, _, _, _, us, rfl, _, _, _, _, _, r, l, _⟩ := h
  rw [List.length_cons, r.len, l]
/-- the making, as an expression tells it -/
def mkI (C : Str) (psi : PIn) : PSp := fun ds c Q => psi ds c fun ks fs c' => Q (.ins C ks fs) c'
instance {K : PySem.W.Frag} {C : Str} {n : Nat} {psi : PIn} : MkP K (He.ga K C) (spI K C n psi) n (mkI C psi) where
  run := fun vs H Q h x dx nx ndx ne => by
    obtain ⟨w, c, ds, Qp, o, r, hn, hp, kk⟩ := h
    exact ⟨w, H, c, ds, fun ks fs c' => Qp (.ins C ks fs) c', x, dx, vs, rfl, o, nx, ndx, ne, rfl, r, hn, hp, fun ks fs w' c' H' l o' rr q => ⟨rfl, kk _ _ w' c' H' l o' rr q⟩⟩
def startI (a : Addr) (C : Str) (N : List Str) (ds : List D) : PSt := some (.obj a C [] []) :: (ds.map (fun d => some (.val d)) ++ List.replicate (N.length - (ds.length + 1)) none)
abbrev endI (a : Addr) (C : Str) (Q : List Str → List D → Om → Prop) : PEnds := { nx := fun ρ c => ∃ ks fs, ρ[0]? = some (some (.obj a C ks fs)) ∧ Q ks fs c, rt := fun _ _ => False }
section
variable {K : PySem.W.Frag} {w w' w0 : Wd} {c c' : Om} {H H' H0 : Hp}
theorem WOk.hidO {p : Addr} {o : HO} (k : WOk w c H) (np : H p = none) (no : ∀ xs, o ≠ .tup xs) : WOk (w.hide p) c (upd H p o) where
  sz := fun a s => .inl (k.sz a s)
  al := fun a z => by
    rcases z with z | z
    · obtain ⟨u, h, n⟩ := k.al a z
      exact ⟨u, upd_new np h, n⟩
    · exact ⟨o, by rw [z]; exact upd_same, no⟩
  br := fun a s => (k.br a s).new np
theorem rel_startI {N : List Str} {us : List V} {ds : List D} {a dx : Addr} {C : Str} (o : WOk w c H) (r : RPs K w H us ds) (na : H a = none) (nd : H dx = none) (ne : dx ≠ a) :
    RelS K w H (w.hide a) c (upd (upd H dx (.own a)) a (.ins (He.ga K C) dx [])) (L2.start N (.ref a :: us)) (startI a C N ds) := by
  have l1 : Le w H w (upd H dx (.own a)) := .new nd
  have o1 : WOk w c (upd H dx (.own a)) := o.new nd
  have na1 : (upd H dx (.own a)) a = none := by rw [upd_ne (Ne.symm ne)]; exact na
  have l2 : Le w (upd H dx (.own a)) (w.hide a) (upd (upd H dx (.own a)) a (.ins (He.ga K C) dx [])) := .hid na1
  have o2 : WOk (w.hide a) c (upd (upd H dx (.own a)) a (.ins (He.ga K C) dx [])) := o1.hidO na1 fun xs e => nomatch e
  have l := l1.trans o l2
  have st : L2.start N (.ref a :: us) = some (.ref a) :: (us.map some ++ List.replicate (N.length - (us.length + 1)) none) := rfl
  have up : ∀ {i : Nat} {s : Sl}, (startI a C N ds)[i + 1]? = some (some s) → ∃ d v, s = .val d ∧ (L2.start N (.ref a :: us))[i + 1]? = some (some v) ∧ RP K w H v d := fun {i s} h => by
    have h : (ds.map (fun d => some (Sl.val d)) ++ List.replicate (N.length - (ds.length + 1)) none)[i]? = some (some s) := h
    by_cases hi : i < ds.length
    · rw [List.getElem?_append_left (by rw [List.length_map]; exact hi), List.getElem?_map, List.getElem?_eq_getElem hi] at h
      cases h
      obtain ⟨v, hv, rv⟩ := r.getD (List.getElem?_eq_getElem hi)
      refine ⟨_, v, rfl, ?_, rv⟩
      rw [st, List.getElem?_cons_succ, List.getElem?_append_left (by rw [List.length_map, r.len]; exact hi), List.getElem?_map, hv]
      rfl
    · rw [List.getElem?_append_right (by rw [List.length_map]; omega), List.getElem?_replicate] at h
      split at h <;> cases h
  refine ⟨l, o2, ?_, ?_, ?_, ?_⟩
  · rw [st]
    unfold startI
    rw [List.length_cons, List.length_cons, List.length_append, List.length_append, List.length_map, List.length_map, List.length_replicate, List.length_replicate, r.len]
  · intro i s h
    cases i with
    | zero =>
      cases h
      exact ⟨.ref a, rfl, ⟨dx, [], rfl, .inr rfl, fun s => o.nz na (o.sz a s), upd_same, rfl, .nil⟩, fun _ b e => by cases e; exact na⟩
    | succ i =>
      obtain ⟨d, v, rfl, hv, rv⟩ := up h
      exact ⟨v, hv, l.rp o rv, fun q => nomatch q⟩
  · intro i j xs ys v hij h1 h2
    cases i with
    | zero => cases h1
    | succ i =>
      obtain ⟨d, v, e, _⟩ := up h1
      cases e
  · intro i s h hs
    cases i with
    | zero => rfl
    | succ i =>
      obtain ⟨d, v, rfl, _⟩ := up h
      cases hs
/-- a field is set -/
def putD (f : Str) (d : D) : List Str → List D → List Str × List D
  | k :: ks, v :: vs => if k = f then (k :: ks, d :: vs) else ((k :: (putD f d ks vs).1), (v :: (putD f d ks vs).2))
  | ks, vs => (ks ++ [f], vs ++ [d])
theorem putD_nil {f : Str} {d : D} : putD f d [] [] = ([f], [d]) := rfl
theorem putD_ne {f k : Str} {d v : D} {ks : List Str} {vs : List D} (h : k ≠ f) : putD f d (k :: ks) (v :: vs) = (k :: (putD f d ks vs).1, v :: (putD f d ks vs).2) := by
  rw [putD, if_neg h]
theorem putF_rep {S : Addr → Prop} {f : Str} {v : V} {d : D} (r : Rep K S H v d) : ∀ {fs : List (Str × V)} {ds : List D}, Reps K S H (fs.map (·.2)) ds → (putF f v fs).map (·.1) = (putD f d (fs.map (·.1)) ds).1 ∧ Reps K S H ((putF f v fs).map (·.2)) (putD f d (fs.map (·.1)) ds).2
  | [], _, .nil => ⟨rfl, .cons r .nil⟩
  | (k, u) :: fs, _, .cons (d := e) (ds := ds) a b => by
    have ih := putF_rep r b (f := f)
    unfold putF
    show _ ∧ _
    unfold putD
    simp only [List.map_cons]
    by_cases e1 : k = f
    · subst e1
      rw [if_pos rfl, if_pos rfl]
      exact ⟨rfl, .cons r b⟩
    · rw [if_neg e1, if_neg e1]
      exact ⟨by rw [List.map_cons, ih.1], .cons a ih.2⟩
/-- the object that is being made, as a name -/
def tObj (i : Nat) : TE := tVar i
theorem _root_.WP.pv_obj {X : Cx} {e : Expr} {i : Nat} (h : PE X e (tVar i)) : PE X e (tObj i) := h
def pSFld (K : PySem.W.Frag) (f : Str) (p : PX D) : PSs' := fun D ρ c => p ρ c fun d c1 => ∃ a C ks vs, ρ[0]? = some (some (.obj a C ks vs)) ∧ Cls K (He.ga K C) ∧ NoAttr K (He.ga K C) f ∧ vs.length < 1000 ∧ D.nx (ρ.set 0 (some (.obj a C (putD f d ks vs).1 (putD f d ks vs).2))) c1
instance {f : Str} {te : TE} {pe : PX D} [h : LE K te pe] : LS K (sFld K (tObj 0) te f) (pSFld K f pe) where
  run := fun w0 H0 c0 w c H σ ρ Dp D k0 R x e => h.run w0 H0 c0 w c H σ ρ _ _ k0 R x fun v d w1 c1 H1 l1 o1 r1 q1 => by
    obtain ⟨a, C, ks, vs, h0, cl, na, hl, q1⟩ := q1
    have R1 := R.mono k0 l1 o1
    obtain ⟨u, eu, ⟨dx, fs, rfl, z, s, e3, e4, r2⟩, n0⟩ := R1.sl 0 _ h0
    subst e4
    obtain ⟨g1, g2⟩ := putF_rep (f := f) r1 r2
    obtain ⟨R2, l2⟩ := R1.putO h0 e3 g1 g2
    refine ⟨.ref a, eu, a, _, dx, fs, rfl, e3, cl, na, ?_, e.nx w1 c1 _ σ _ R2 ((l1.ls R.ok).trans l2) q1⟩
    have := r2.len
    rw [List.length_map] at this
    omega
def pFldO (K : PySem.W.Frag) (f : Str) : PX D := fun ρ c Q => ∃ a C ks vs e, ρ[0]? = some (some (.obj a C ks vs)) ∧ Cls K (He.ga K C) ∧ NoAttr K (He.ga K C) f ∧ lookD f ks vs = some e ∧ Q e c
instance (priority := high) {f : Str} : LE K (tFld K (tObj 0) f) (pFldO K f) where
  run := fun w0 H0 c0 w c H σ ρ Qp Q k0 R x k => by
    obtain ⟨a, C, ks, vs, e, h0, cl, na, hl, q⟩ := x
    obtain ⟨u, eu, ⟨dx, fs, rfl, z, s, e3, e4, r2⟩, n0⟩ := R.sl 0 _ h0
    subst e4
    obtain ⟨u2, hu, ru⟩ := look_rep r2 hl
    exact ⟨.ref a, eu, a, _, dx, fs, u2, rfl, e3, cl, na, hu, k u2 e w c H .refl R.ok ru q⟩
end
section
variable {P : Program} {w : World} {K : PySem.W.Frag} {mg : Str → Option Value} {base : Heap} {k : Nat} {x : Str} {N ps : List Str} {st : Stmt} {psi : PIn} {C : Str}
theorem bodyI_ok {t : TS} {p : PSs'} {vs : List V} {H : Hp} {Q : VK} {E : XK} {n : Nat} (hl : LS K t p) (hq : ∀ a ds c Q, ds.length = n → psi ds c Q → p (endI a C Q) (startI a C N ds) c) (h : spI K C n psi vs H Q E) : t { nx := fun _ H' => Q .non H', rt := Q } (L2.start N vs) H := by
  obtain ⟨w0, H0, c, ds, Qp, a, dx, us, rfl, o, na, nd, ne, rfl, r, hn, hp, kk⟩ := h
  refine hl.run w0 H0 c (w0.hide a) c _ _ _ _ _ o (rel_startI o r na nd ne) (hq a ds c Qp hn hp) ⟨fun w' c' H' σ' ρ' R _ q => ?_, fun w' c' H' σ' ρ' R _ q => q.elim, fun w' c' H' σ' ρ' R _ q => q.elim, fun v d w' c' H' l o r q => q.elim⟩
  obtain ⟨ks, fs, h0, q⟩ := q
  obtain ⟨u, eu, ⟨dx2, fs2, rfl, z, s, e3, e4, r2⟩, n0⟩ := R.sl 0 _ h0
  refine kk ks fs (w'.show a) c' H' (R.le.shw na o) (R.ok.shw s) ?_ q
  exact Rep.ins (by rw [cut_at (fun q => q.2 rfl)]; exact e3) e4 (Reps.mono hide_show (fun _ h => h) r2)
theorem okI {q : Str} {a : Addr} (F : ∃ fd, FunD K x q (defArgs st) (defBody st) (defScope st) [] [] a fd) (S : FnScope N ps (defScope st))
    (hb : ∀ (kV doc pm : Value) (an : Option Addr) (cdv ct : Value) (us : List Value), us.length = ps.length → bindArgs (PySem.W.fnOf x q (defArgs st) (defBody st) (defScope st) .none kV doc pm an cdv ct) ⟨us, []⟩ = pure (ps.zip us)) (hps : 0 < ps.length)
    (hbody : ∀ (f : Addr) (cdv : Value) (A : Around) (outer : List Env) (s : Shared) (H : Hp) (E : XK), Room k (A.deeper (envOfC q (defScope st) s.heap.objs.size f cdv)) →
      ∃ t p, PSs (cxOf CX0 P w K mg base N q (defScope st) f cdv A outer s H E).nox (defBody st) t ∧ LS K t p ∧ ∀ a ds c Q, ds.length = ps.length - 1 → psi ds c Q → p (endI a C Q) (startI a C N ds) c) : OkM P w K mg base CX0 (k + 1) a ps (spI K C (ps.length - 1) psi) :=
  OkM.mk0 F S (fun vs H Q E h => by rw [spI_len h]; omega) hb fun f cdv A outer s H vs Q E hr h => by
    obtain ⟨t, p, ht, hl, hq⟩ := hbody f cdv A outer s H E hr
    exact ⟨t, ht, bodyI_ok hl hq h⟩
end
theorem startI_eq {a : Addr} {C : Str} {N : List Str} {ds : List D} : startI a C N ds = some (.obj a C [] []) :: (ds.map (fun d => some (.val d)) ++ List.replicate (N.length - (ds.length + 1)) none) := rfl
end WP
/-! ## enumerate over a zip: the zip's pairs are held -/
namespace WK
open PySem PySem.Spec PySem.W PyProof.Rows L2 RZ WP
/-- a zip, whoever holds its last pair -/
def AnyZip (h : Heap) (z TI TO : Addr) : Prop := ∃ (f : Value) (b : Bool), h.get? z = some { cls := .type "zip", dict := none, data := .fields #[f, .bool b, .bool false, .ref TI, .ref TO], slots := #[] } ∧ (f = .none ∨ ∃ T : Nat, f = rawInt T)
section
variable {prog : Program} {w : World} {A : Around} {E : Value → Shared → Prop} {s : Shared} {z TI TO i1 i2 : Addr} {fp1 fp2 : List Addr} {n1 n2 i : Nat} {P1 P2 : Nat → Value → Prop} {St1 St2 : Nat → Heap → Prop}
theorem alive_any {a : Addr} {Q : Option Obj → Shared → Prop} (h : Q (s.heap.get? a) s) : wpAny (model prog w) A (loadIfAlive a) Q E s := fun _ _ _ => h
theorem AnyZip.lt {h : Heap} (x : AnyZip h z TI TO) : z < h.objs.size := by
  obtain ⟨f, b, e, _⟩ := x
  exact Heap.lt_size e
theorem AnyZip.same {h h' : Heap} (x : AnyZip h z TI TO) (k : ∀ o, h.get? z = some o → h'.get? z = some o) : AnyZip h' z TI TO := by
  obtain ⟨f, b, e, r⟩ := x
  exact ⟨f, b, k _ e, r⟩
/-- is the pair that was handed out last free? the zip stays one -/
theorem own_free {Q : Bool → Shared → Prop} (hz : AnyZip s.heap z TI TO) (hQ : ∀ r h', AnyZip h' z TI TO → Heap.SameBut z s.heap h' → Q r { s with heap := h' }) :
    wpAny (model prog w) A (Builtin.SmallTypes.ownedTupleIsFree (.ref z)) Q E s := by
  have same : Heap.SameBut z s.heap s.heap := ⟨rfl, fun _ _ => rfl⟩
  have id_ : ∀ r, Q r s := fun r => hQ r s.heap hz same
  obtain ⟨f, b, e, hf⟩ := id hz
  unfold Builtin.SmallTypes.ownedTupleIsFree
  refine wpAny_bind (wpAny_field e rfl (x := f) rfl ?_)
  rcases hf with rfl | ⟨T, rfl⟩
  · exact wpAny_pure (id_ true)
  · show wpAny _ _ (loadIfAlive T >>= _) _ _ _
    refine wpAny_bind (alive_any ?_)
    cases hT : s.heap.get? T with
    | none => exact wpAny_pure (id_ true)
    | some o =>
      show wpAny _ _ (field (.ref z) 1 >>= _) _ _ _
      refine wpAny_bind (wpAny_field e rfl (x := .bool b) rfl ?_)
      cases b with
      | true => exact wpAny_pure (id_ false)
      | false =>
        show wpAny _ _ (setField (.ref z) 1 (.bool true) >>= _) _ _ _
        refine wpAny_bind (wpAny_setField_rec e (by simp) fun h1 e1 s1 => wpAny_pure ?_)
        exact hQ false h1 ⟨_, _, e1, .inr ⟨T, rfl⟩⟩ s1
/-- the next pair of a zip, a new one -/
theorem zipAny_item {Q : Value → Shared → Prop} (S : ZipSep2 z TI TO i1 i2 fp1 fp2) (D1 : Draws prog w A.in1 i1 fp1 n1 P1 St1) (D2 : Draws prog w A.in1 i2 fp2 n2 P2 St2)
    (hz : AnyZip s.heap z TI TO) (hI : IsTupOf2 s.heap TI (.ref i1) (.ref i2)) (hO : ∃ a1 a2, IsTupOf2 s.heap TO a1 a2) (st1 : St1 i s.heap) (st2 : St2 i s.heap) (l1 : i < n1) (l2 : i < n2)
    (hQ : ∀ x1 x2 h' tk, P1 i x1 → P2 i x2 → AnyZip h' z TI TO → (∃ a1 a2, IsTupOf2 h' TO a1 a2) → St1 (i + 1) h' → St2 (i + 1) h' → IsTupOf2 h' s.heap.objs.size x1 x2 → h'.objs.size = s.heap.objs.size + 1 →
      (∀ c o, c ≠ z → c ≠ TO → c ≠ i1 → c ≠ i2 → s.heap.get? c = some o → h'.get? c = some o) → Q (.ref s.heap.objs.size) { s with heap := h', toks := tk }) :
    wpAny (model prog w) A (Builtin.SmallTypes.nextOf (.ref z)) Q E s := by
  obtain ⟨a1, a2, hO⟩ := hO
  have hT : s.TypeIs (.ref z) "zip" := by
    obtain ⟨f, b, e, _⟩ := hz
    exact ⟨_, e, rfl⟩
  unfold Builtin.SmallTypes.nextOf
  refine wpAny_bind (wpAny_callSpecial?_slot (name := Str.ofString "__next__") hT F.slot_zip_next (wpAny_call_entry F.slot_zip_next hT F.entry_zip_next ?_ (F.args_zip_next_1 _)))
  obtain ⟨hp, gg, dd, tk0, oss⟩ := s
  obtain ⟨f, b, e, hf⟩ := id hz
  show wpAny _ _ (field (.ref z) 2 >>= _) _ _ _
  refine wpAny_bind (wpAny_field e rfl (x := .bool false) rfl ?_)
  show wpAny _ _ (field (.ref z) 3 >>= _) _ _ _
  refine wpAny_bind (wpAny_field e rfl (x := .ref TI) rfl ?_)
  refine wpAny_bind (wpAny_seqItems hI rfl ?_)
  show wpAny _ _ (Builtin.SmallTypes.ownedTupleIsFree (.ref z) >>= _) _ _ _
  refine wpAny_bind (own_free hz fun r g0 hz0 hs0 => ?_)
  have hs0 : Heap.SameBut z hp g0 := hs0
  have sz0 : g0.objs.size = hp.objs.size := hs0.1
  have hO0 : IsTupOf2 g0 TO a1 a2 := hs0.extBut _ _ S.TOz hO
  have t10 := D1.over st1 hs0 S.zf1
  have t20 := D2.over st2 hs0 S.zf2
  cases r with
  | false =>
    simp only [Bool.false_eq_true, if_false]
    simp only [← Array.forIn_toList, List.forIn_cons, List.forIn_nil]
    refine wpAny_bind (wpAny_bind (wpAny_bind (wpAny_holding ?_)))
    show wpAny _ _ (Builtin.SmallTypes.nextOf (.ref i1) >>= _) _ _ ⟨g0, gg, dd, tk0, oss⟩
    refine wpAny_bind (D1.item i _ _ _ l1 t10 fun x1 p1 tk1 hx1 sn1 hp1 => wpAny_pure (wpAny_pure ?_))
    have hp1 : Heap.SameBut i1 g0 p1 := hp1
    refine wpAny_bind (wpAny_bind (wpAny_holding ?_))
    show wpAny _ _ (Builtin.SmallTypes.nextOf (.ref i2) >>= _) _ _ ⟨p1, gg, dd, tk1, oss⟩
    refine wpAny_bind (D2.item i _ _ _ l2 (D2.over t20 hp1 S.sep1_2) fun x2 p2 tk2 hx2 sn2 hp2 => wpAny_pure (wpAny_pure (wpAny_pure ?_)))
    have hp2 : Heap.SameBut i2 p1 p2 := hp2
    have sz2 : p2.objs.size = hp.objs.size := by rw [hp2.1, hp1.1, sz0]
    refine wpAny_bind ?_
    show wpAny _ _ (newTuple [x1, x2]) _ _ ⟨p2, gg, dd, tk2, oss⟩
    refine wpAny_newTuple (wpAny_pure ⟨_, rfl, wpAny_pure ?_⟩)
    show Q (.ref p2.objs.size) ⟨p2.push { cls := .type "tuple", data := .seq #[x1, x2] }, gg, dd, tk2, oss⟩
    have kp : ∀ c o, c ≠ i1 → c ≠ i2 → g0.get? c = some o → (p2.push { cls := .type "tuple", data := .seq #[x1, x2] }).get? c = some o := fun c o c1 c2 q => Heap.get?_push_of_some _ (hp2.extBut _ _ c2 (hp1.extBut _ _ c1 q))
    have new : (p2.push { cls := .type "tuple", data := .seq #[x1, x2] }).get? p2.objs.size = some { cls := .type "tuple", data := .seq #[x1, x2] } := Heap.get?_push_size _ rfl
    have snA : St1 (i + 1) (p2.push { cls := .type "tuple", data := .seq #[x1, x2] }) := D1.frame _ _ _ (D1.over sn1 hp2 S.sep2_1) fun d _ o q => Heap.get?_push_of_some _ q
    have snB : St2 (i + 1) (p2.push { cls := .type "tuple", data := .seq #[x1, x2] }) := D2.frame _ _ _ sn2 fun d _ o q => Heap.get?_push_of_some _ q
    rw [sz2] at new ⊢
    exact hQ x1 x2 _ tk2 hx1 hx2 (hz0.same fun o q => kp _ _ S.zi1 S.zi2 q) ⟨a1, a2, kp _ _ S.Ti1 S.Ti2 hO0⟩ snA snB new (by rw [Heap.size_push, sz2]) fun c o cz cT c1 c2 q => kp c o c1 c2 (hs0.extBut _ _ cz q)
  | true =>
    simp only [if_true]
    obtain ⟨f1, b1, e1, _⟩ := hz0
    refine wpAny_bind (wpAny_rule ?_)
    refine wpAny_bind (wpAny_field e1 rfl (x := .ref TO) rfl ?_)
    refine wpAny_bind (wpAny_setField_rec e1 (by simp) fun g1 e2 hs1 => ?_)
    have e2 : g1.get? z = some { cls := .type "zip", dict := none, data := .fields #[.ellipsis, .bool b1, .bool false, .ref TI, .ref TO], slots := #[] } := e2
    have hs1 : Heap.SameBut z g0 g1 := hs1
    have t11 := D1.over t10 hs1 S.zf1
    have t21 := D2.over t20 hs1 S.zf2
    have hO1 : IsTupOf2 g1 TO a1 a2 := hs1.extBut _ _ S.TOz hO0
    have hs0k : ∀ c o, c ≠ z → hp.get? c = some o → g0.get? c = some o := fun c o cz q => hs0.extBut _ _ cz q
    clear e1 hs0 t10 t20 hO0
    simp only [List.zipIdx_cons, List.zipIdx_nil, List.forIn_cons, List.forIn_nil]
    refine wpAny_bind (wpAny_bind (wpAny_bind (wpAny_onRaise ?_)))
    show wpAny _ _ (Builtin.SmallTypes.nextOf (.ref i1) >>= _) _ _ ⟨g1, gg, dd, tk0, oss⟩
    refine wpAny_bind (D1.item i _ _ _ l1 t11 fun x1 p1 tk1 hx1 sn1 hp1 => wpAny_pure ?_)
    have hp1 : Heap.SameBut i1 g1 p1 := hp1
    have hO2 : IsTupOf2 p1 TO a1 a2 := hp1.extBut _ _ S.Ti1 hO1
    refine wpAny_bind (wpAny_seqItems (s := ⟨p1, gg, dd, tk1, oss⟩) hO2 rfl ?_)
    refine wpAny_bind (updateSeq_IsTupOf2 (s := ⟨p1, gg, dd, tk1, oss⟩) hO2 fun q1 hO3 hq1 => wpAny_bind (wpAny_letGo (wpAny_pure ?_)))
    have hO3 : IsTupOf2 q1 TO x1 a2 := hO3
    have hq1 : Heap.SameBut TO p1 q1 := hq1
    refine wpAny_bind (wpAny_bind (wpAny_onRaise ?_))
    show wpAny _ _ (Builtin.SmallTypes.nextOf (.ref i2) >>= _) _ _ ⟨q1, gg, dd, tk1, oss⟩
    refine wpAny_bind (D2.item i _ _ _ l2 (D2.over (D2.over t21 hp1 S.sep1_2) hq1 S.Tf2) fun x2 p2 tk2 hx2 sn2 hp2 => wpAny_pure ?_)
    have hp2 : Heap.SameBut i2 q1 p2 := hp2
    have hO4 : IsTupOf2 p2 TO x1 a2 := hp2.extBut _ _ S.Ti2 hO3
    refine wpAny_bind (wpAny_seqItems (s := ⟨p2, gg, dd, tk2, oss⟩) hO4 rfl ?_)
    refine wpAny_bind (updateSeq_IsTupOf2 (s := ⟨p2, gg, dd, tk2, oss⟩) hO4 fun q2 hO5 hq2 => wpAny_bind (wpAny_letGo (wpAny_pure (wpAny_pure ?_))))
    have hO5 : IsTupOf2 q2 TO x1 x2 := hO5
    have hq2 : Heap.SameBut TO p2 q2 := hq2
    refine wpAny_bind (wpAny_seqItems (s := ⟨q2, gg, dd, tk2, oss⟩) hO5 rfl ?_)
    refine wpAny_bind ?_
    show wpAny _ _ (newTuple [x1, x2]) _ _ ⟨q2, gg, dd, tk2, oss⟩
    refine wpAny_newTuple ?_
    have sz2 : q2.objs.size = hp.objs.size := by rw [hq2.1, hp2.1, hq1.1, hp1.1, hs1.1, sz0]
    have e3 : q2.get? z = some { cls := .type "zip", dict := none, data := .fields #[.ellipsis, .bool b1, .bool false, .ref TI, .ref TO], slots := #[] } :=
      hq2.extBut _ _ (Ne.symm S.TOz) (hp2.extBut _ _ S.zi2 (hq1.extBut _ _ (Ne.symm S.TOz) (hp1.extBut _ _ S.zi1 e2)))
    have zlt : z < q2.objs.size := Heap.lt_size e3
    have t1e : St1 (i + 1) q2 := D1.over (D1.over (D1.over sn1 hq1 S.Tf1) hp2 S.sep2_1) hq2 S.Tf1
    have t2e : St2 (i + 1) q2 := D2.over sn2 hq2 S.Tf2
    have kq : ∀ c o, c ≠ z → c ≠ TO → c ≠ i1 → c ≠ i2 → g0.get? c = some o → q2.get? c = some o := fun c o cz cT c1 c2 q =>
      hq2.extBut _ _ cT (hp2.extBut _ _ c2 (hq1.extBut _ _ cT (hp1.extBut _ _ c1 (hs1.extBut _ _ cz q))))
    have e4 := Heap.get?_push_of_some (h := q2) { cls := .type "tuple", data := .seq #[x1, x2] } e3
    have new : (q2.push { cls := .type "tuple", data := .seq #[x1, x2] }).get? q2.objs.size = some { cls := .type "tuple", data := .seq #[x1, x2] } := Heap.get?_push_size _ rfl
    refine wpAny_bind ?_
    show wpAny _ _ (Builtin.SmallTypes.ownedTupleHandOut (.ref z) (.ref q2.objs.size)) _ _ ⟨q2.push { cls := .type "tuple", data := .seq #[x1, x2] }, gg, dd, tk2, oss⟩
    unfold Builtin.SmallTypes.ownedTupleHandOut
    refine wpAny_bind (wpAny_setField_rec e4 (by simp) fun r1 e5 hr1 => ?_)
    have e5 : r1.get? z = some { cls := .type "zip", dict := none, data := .fields #[rawInt q2.objs.size, .bool b1, .bool false, .ref TI, .ref TO], slots := #[] } := e5
    have hr1 : Heap.SameBut z (q2.push { cls := .type "tuple", data := .seq #[x1, x2] }) r1 := hr1
    refine wpAny_setField_rec e5 (by simp) fun r2 e6 hr2 => wpAny_pure ⟨_, rfl, wpAny_pure ?_⟩
    have e6 : r2.get? z = some { cls := .type "zip", dict := none, data := .fields #[rawInt q2.objs.size, .bool false, .bool false, .ref TI, .ref TO], slots := #[] } := e6
    have hr2 : Heap.SameBut z r1 r2 := hr2
    show Q (.ref q2.objs.size) ⟨r2, gg, dd, tk2, oss⟩
    have up : ∀ c o, c ≠ z → q2.get? c = some o → r2.get? c = some o := fun c o cz q => hr2.extBut _ _ cz (hr1.extBut _ _ cz (Heap.get?_push_of_some _ q))
    have nz : q2.objs.size ≠ z := Nat.ne_of_gt zlt
    have new2 : IsTupOf2 r2 q2.objs.size x1 x2 := hr2.extBut _ _ nz (hr1.extBut _ _ nz new)
    have szr : r2.objs.size = q2.objs.size + 1 := by rw [hr2.1, hr1.1, Heap.size_push]
    rw [sz2] at new2 szr ⊢
    exact hQ x1 x2 r2 tk2 hx1 hx2 ⟨_, _, e6, .inr ⟨_, rfl⟩⟩ ⟨x1, x2, up _ _ S.TOz hO5⟩ (D1.frame _ _ _ t1e fun d hd o q => up d o (fun y => S.zf1 (y ▸ hd)) q) (D2.frame _ _ _ t2e fun d hd o q => up d o (fun y => S.zf2 (y ▸ hd)) q) new2 szr
      fun c o cz cT c1 c2 q => up c o cz (kq c o cz cT c1 c2 (hs0k c o cz q))
/-- a zip at its end -/
theorem zipAny_end {Q : Value → Shared → Prop} (S : ZipSep2 z TI TO i1 i2 fp1 fp2) (D1 : Draws prog w A.in1 i1 fp1 n1 P1 St1) (D2 : Draws prog w A.in1 i2 fp2 n2 P2 St2)
    (hz : AnyZip s.heap z TI TO) (hI : IsTupOf2 s.heap TI (.ref i1) (.ref i2)) (hO : ∃ a1 a2, IsTupOf2 s.heap TO a1 a2) (st1 : St1 i s.heap) (st2 : St2 i s.heap) (hl1 : i ≤ n1) (hl2 : i ≤ n2) (hend : i = n1 ∨ i = n2)
    (hE : ∀ h' tk e, (∀ c o, c ≠ z → c ≠ TO → c ≠ i1 → c ≠ i2 → s.heap.get? c = some o → h'.get? c = some o) → (∃ o, h'.get? e = some o ∧ o.cls = .type "StopIteration") → E (.ref e) { s with heap := h', toks := tk }) :
    wpAny (model prog w) A (Builtin.SmallTypes.nextOf (.ref z)) Q E s := by
  obtain ⟨a1, a2, hO⟩ := hO
  have hT : s.TypeIs (.ref z) "zip" := by
    obtain ⟨f, b, e, _⟩ := hz
    exact ⟨_, e, rfl⟩
  unfold Builtin.SmallTypes.nextOf
  refine wpAny_bind (wpAny_callSpecial?_slot (name := Str.ofString "__next__") hT F.slot_zip_next (wpAny_call_entry F.slot_zip_next hT F.entry_zip_next ?_ (F.args_zip_next_1 _)))
  obtain ⟨hp, gg, dd, tk0, oss⟩ := s
  obtain ⟨f, b, e, hf⟩ := id hz
  show wpAny _ _ (field (.ref z) 2 >>= _) _ _ _
  refine wpAny_bind (wpAny_field e rfl (x := .bool false) rfl ?_)
  show wpAny _ _ (field (.ref z) 3 >>= _) _ _ _
  refine wpAny_bind (wpAny_field e rfl (x := .ref TI) rfl ?_)
  refine wpAny_bind (wpAny_seqItems hI rfl ?_)
  show wpAny _ _ (Builtin.SmallTypes.ownedTupleIsFree (.ref z) >>= _) _ _ _
  refine wpAny_bind (own_free hz fun r g0 hz0 hs0 => ?_)
  have hs0 : Heap.SameBut z hp g0 := hs0
  have k0 : ∀ c o, c ≠ z → hp.get? c = some o → g0.get? c = some o := fun c o cz q => hs0.extBut _ _ cz q
  have hO0 : IsTupOf2 g0 TO a1 a2 := hs0.extBut _ _ S.TOz hO
  have t10 := D1.over st1 hs0 S.zf1
  have t20 := D2.over st2 hs0 S.zf2
  cases r with
  | false =>
    simp only [Bool.false_eq_true, if_false]
    simp only [← Array.forIn_toList, List.forIn_cons, List.forIn_nil]
    refine wpAny_bind (wpAny_bind (wpAny_bind (wpAny_holding ?_)))
    show wpAny _ _ (Builtin.SmallTypes.nextOf (.ref i1) >>= _) _ _ ⟨g0, gg, dd, tk0, oss⟩
    by_cases h1 : i = n1
    · subst h1
      refine wpAny_bind (D1.done _ _ _ t10 fun h' x hx st => ?_)
      exact hE h' tk0 x (fun c o cz _ c1 _ q => hx c o c1 (k0 c o cz q)) st
    · refine wpAny_bind (D1.item i _ _ _ (by omega) t10 fun x1 p1 tk1 hx1 sn1 hp1 => wpAny_pure (wpAny_pure ?_))
      have hp1 : Heap.SameBut i1 g0 p1 := hp1
      have h2 : i = n2 := by omega
      subst h2
      refine wpAny_bind (wpAny_bind (wpAny_holding ?_))
      show wpAny _ _ (Builtin.SmallTypes.nextOf (.ref i2) >>= _) _ _ ⟨p1, gg, dd, tk1, oss⟩
      refine wpAny_bind (D2.done _ _ _ (D2.over t20 hp1 S.sep1_2) fun h' x hx st => ?_)
      exact hE h' tk1 x (fun c o cz _ c1 c2 q => hx c o c2 (hp1.extBut _ _ c1 (k0 c o cz q))) st
  | true =>
    simp only [if_true]
    obtain ⟨f1, b1, e1, _⟩ := hz0
    refine wpAny_bind (wpAny_rule ?_)
    refine wpAny_bind (wpAny_field e1 rfl (x := .ref TO) rfl ?_)
    refine wpAny_bind (wpAny_setField_rec e1 (by simp) fun g1 e2 hs1 => ?_)
    have e2 : g1.get? z = some { cls := .type "zip", dict := none, data := .fields #[.ellipsis, .bool b1, .bool false, .ref TI, .ref TO], slots := #[] } := e2
    have hs1 : Heap.SameBut z g0 g1 := hs1
    have t11 := D1.over t10 hs1 S.zf1
    have t21 := D2.over t20 hs1 S.zf2
    have hO1 : IsTupOf2 g1 TO a1 a2 := hs1.extBut _ _ S.TOz hO0
    have k1 : ∀ c o, c ≠ z → hp.get? c = some o → g1.get? c = some o := fun c o cz q => hs1.extBut _ _ cz (k0 c o cz q)
    clear e1 hs0 t10 t20 hO0 k0 hs1
    simp only [List.zipIdx_cons, List.zipIdx_nil, List.forIn_cons, List.forIn_nil]
    refine wpAny_bind (wpAny_bind (wpAny_bind (wpAny_onRaise ?_)))
    show wpAny _ _ (Builtin.SmallTypes.nextOf (.ref i1) >>= _) _ _ ⟨g1, gg, dd, tk0, oss⟩
    by_cases h1 : i = n1
    · subst h1
      refine wpAny_bind (D1.done _ _ _ t11 fun h' x hx st => ?_)
      have e3 := hx _ _ S.zi1 e2
      refine wpAny_setField_rec (s := ⟨h', gg, dd, tk0, oss⟩) e3 (by simp) fun h2 e4 hs2 => ?_
      have hs2 : Heap.SameBut z h' h2 := hs2
      refine hE h2 tk0 x (fun c o cz _ c1 _ q => hs2.extBut _ _ cz (hx c o c1 (k1 c o cz q))) ?_
      obtain ⟨o, ho, hc⟩ := st
      have ne : x ≠ z := fun y => by
        subst y
        rw [show h'.get? x = some o from ho] at e3
        cases e3
        simp at hc
      exact ⟨o, hs2.extBut _ _ ne ho, hc⟩
    · refine wpAny_bind (D1.item i _ _ _ (by omega) t11 fun x1 p1 tk1 hx1 sn1 hp1 => wpAny_pure ?_)
      have hp1 : Heap.SameBut i1 g1 p1 := hp1
      have hO2 : IsTupOf2 p1 TO a1 a2 := hp1.extBut _ _ S.Ti1 hO1
      have h2 : i = n2 := by omega
      subst h2
      refine wpAny_bind (wpAny_seqItems (s := ⟨p1, gg, dd, tk1, oss⟩) hO2 rfl ?_)
      refine wpAny_bind (updateSeq_IsTupOf2 (s := ⟨p1, gg, dd, tk1, oss⟩) hO2 fun q1 hO3 hq1 => wpAny_bind (wpAny_letGo (wpAny_pure ?_)))
      have hq1 : Heap.SameBut TO p1 q1 := hq1
      refine wpAny_bind (wpAny_bind (wpAny_onRaise ?_))
      show wpAny _ _ (Builtin.SmallTypes.nextOf (.ref i2) >>= _) _ _ ⟨q1, gg, dd, tk1, oss⟩
      refine wpAny_bind (D2.done _ _ _ (D2.over (D2.over t21 hp1 S.sep1_2) hq1 S.Tf2) fun h' x hx st => ?_)
      have e3 := hx _ _ S.zi2 (hq1.extBut _ _ (Ne.symm S.TOz) (hp1.extBut _ _ S.zi1 e2))
      refine wpAny_setField_rec (s := ⟨h', gg, dd, tk1, oss⟩) e3 (by simp) fun h2 e4 hs2 => ?_
      have hs2 : Heap.SameBut z h' h2 := hs2
      refine hE h2 tk1 x (fun c o cz cT c1 c2 q => hs2.extBut _ _ cz (hx c o c2 (hq1.extBut _ _ cT (hp1.extBut _ _ c1 (k1 c o cz q))))) ?_
      obtain ⟨o, ho, hc⟩ := st
      have ne : x ≠ z := fun y => by
        subst y
        rw [show h'.get? x = some o from ho] at e3
        cases e3
        simp at hc
      exact ⟨o, hs2.extBut _ _ ne ho, hc⟩
/-- the next turn of an enumerate over a zip: a new pair of the count and of a new pair -/
theorem enumZ_item {e : Addr} {old : Value} {Q : Option Value → Shared → Prop} (S : ZipSep2 z TI TO i1 i2 fp1 fp2) (D1 : Draws prog w A.in1.in1 i1 fp1 n1 P1 St1) (D2 : Draws prog w A.in1.in1 i2 fp2 n2 P2 St2) (he : IsEnum s.heap e z (i : Nat) old)
    (ne : e ≠ z ∧ e ≠ TO ∧ e ≠ i1 ∧ e ≠ i2 ∧ e ∉ fp1 ∧ e ∉ fp2) (hz : AnyZip s.heap z TI TO) (hI : IsTupOf2 s.heap TI (.ref i1) (.ref i2)) (hO : ∃ a1 a2, IsTupOf2 s.heap TO a1 a2) (st1 : St1 i s.heap) (st2 : St2 i s.heap) (l1 : i < n1) (l2 : i < n2)
    (hQ : ∀ x1 x2 g1 h' tk, P1 i x1 → P2 i x2 → IsTupOf2 g1 s.heap.objs.size x1 x2 → g1.objs.size = s.heap.objs.size + 1 → (∀ c o, c ≠ z → c ≠ TO → c ≠ i1 → c ≠ i2 → s.heap.get? c = some o → g1.get? c = some o) → (∀ c o, c ≠ e → g1.get? c = some o → h'.get? c = some o) → IsEnumOut h' e z ((i : Int) + 1) (.ref s.heap.objs.size) (s.heap.objs.size + 1) → AnyZip h' z TI TO → (∃ a1 a2, IsTupOf2 h' TO a1 a2) → St1 (i + 1) h' → St2 (i + 1) h' →
      h'.get? (s.heap.objs.size + 1) = some { cls := .type "tuple", data := .seq #[.int (i : Nat) tk, .ref s.heap.objs.size] } → h'.objs.size = s.heap.objs.size + 2 → Q (some (.ref (s.heap.objs.size + 1))) { s with heap := h', toks := tk + 1 }) :
    wpAny (model prog w) A (pyNext (.ref e)) Q E s := by
  obtain ⟨ez, eT, e1, e2, ef1, ef2⟩ := ne
  have hT : s.TypeIs (.ref e) "enumerate" := ⟨_, he, rfl⟩
  unfold pyNext
  refine wpAny_bind (wpAny_attempt (wpAny_callSpecial?_slot (name := Str.ofString "__next__") hT F.slot_enumerate_next (wpAny_call_entry F.slot_enumerate_next hT F.entry_enumerate_next ?_ (F.args_enumerate_next_1 _))))
  obtain ⟨hp, gg, dd, tk0, oss⟩ := s
  show wpAny _ _ (field (.ref e) 2 >>= _) _ _ _
  refine wpAny_bind (wpAny_field he rfl (x := .ref z) rfl ?_)
  refine wpAny_bind (zipAny_item S D1 D2 hz hI hO st1 st2 l1 l2 fun x1 x2 g1 tk hx1 hx2 hz1 hO1 sn1 sn2 hN hsz hk => ?_)
  have hN : IsTupOf2 g1 hp.objs.size x1 x2 := hN
  have hsz : g1.objs.size = hp.objs.size + 1 := hsz
  have he1 : IsEnum g1 e z (i : Nat) old := hk _ _ ez eT e1 e2 he
  have elt : e < hp.objs.size := Heap.lt_size he
  show wpAny _ _ (field (.ref e) 3 >>= _) _ _ ⟨g1, gg, dd, tk, oss⟩
  refine wpAny_bind (wpAny_field he1 rfl (x := rawInt (i : Nat)) rfl ?_)
  show wpAny _ _ (field (.ref e) 4 >>= _) _ _ ⟨g1, gg, dd, tk, oss⟩
  refine wpAny_bind (wpAny_field he1 rfl (x := .none) rfl ?_)
  show wpAny _ _ (mkInt (i : Nat) >>= _) _ _ ⟨g1, gg, dd, tk, oss⟩
  refine wpAny_bind (wpAny_mkInt ?_)
  show wpAny _ _ (setField (.ref e) 3 (rawInt ((i : Int) + 1)) >>= _) _ _ ⟨g1, gg, dd, tk + 1, oss⟩
  refine wpAny_bind (wpAny_setField_rec he1 (by simp) fun g2 he2 hs2 => ?_)
  have hs2 : Heap.SameBut e g1 g2 := hs2
  have he2 : IsEnum g2 e z ((i : Int) + 1) old := he2
  show wpAny _ _ (setField (.ref e) 4 .none >>= _) _ _ ⟨g2, gg, dd, tk + 1, oss⟩
  refine wpAny_bind (wpAny_setField_rec he2 (by simp) fun g3 he3 hs3 => ?_)
  have hs3 : Heap.SameBut e g2 g3 := hs3
  have he3 : IsEnum g3 e z ((i : Int) + 1) old := he3
  have sz3 : g3.objs.size = hp.objs.size + 1 := by rw [hs3.1, hs2.1, hsz]
  show wpAny _ _ (newTuple [.int (i : Nat) tk, .ref hp.objs.size] >>= _) _ _ ⟨g3, gg, dd, tk + 1, oss⟩
  refine wpAny_bind (wpAny_newTuple ?_)
  have new4 : (g3.push { cls := .type "tuple", data := .seq #[.int (i : Nat) tk, .ref hp.objs.size] }).get? g3.objs.size = some { cls := .type "tuple", data := .seq #[.int (i : Nat) tk, .ref hp.objs.size] } := Heap.get?_push_size _ rfl
  have sz4 : (g3.push { cls := .type "tuple", data := .seq #[.int (i : Nat) tk, .ref hp.objs.size] }).objs.size = hp.objs.size + 2 := by rw [Heap.size_push, sz3]
  have k4 : ∀ c o, c ≠ e → g1.get? c = some o → (g3.push { cls := .type "tuple", data := .seq #[.int (i : Nat) tk, .ref hp.objs.size] }).get? c = some o := fun c o ce q => Heap.get?_push_of_some _ (hs3.extBut _ _ ce (hs2.extBut _ _ ce q))
  have he4 : IsEnum (g3.push { cls := .type "tuple", data := .seq #[.int (i : Nat) tk, .ref hp.objs.size] }) e z ((i : Int) + 1) old := Heap.get?_push_of_some _ he3
  rw [sz3] at new4
  show wpAny _ _ (Builtin.SmallTypes.ownedTupleIsFree (.ref e) >>= _) _ _ ⟨g3.push { cls := .type "tuple", data := .seq #[.int (i : Nat) tk, .ref hp.objs.size] }, gg, dd, tk + 1, oss⟩
  generalize g3.push { cls := .type "tuple", data := .seq #[.int (i : Nat) tk, .ref hp.objs.size] } = g4 at new4 sz4 k4 he4 ⊢
  refine wpAny_bind ?_
  unfold Builtin.SmallTypes.ownedTupleIsFree
  refine wpAny_bind (wpAny_field he4 rfl (x := .none) rfl (wpAny_pure ?_))
  simp only [if_true]
  refine wpAny_bind (wpAny_rule ?_)
  refine wpAny_bind (wpAny_field he4 rfl (x := old) rfl ?_)
  refine wpAny_bind (wpAny_setField_rec he4 (by simp) fun g5 he5 hs5 => ?_)
  have hs5 : Heap.SameBut e g4 g5 := hs5
  have he5 : IsEnum g5 e z ((i : Int) + 1) (.ref hp.objs.size) := he5
  show wpAny _ _ (Builtin.SmallTypes.ownedTupleHandOut (.ref e) (.ref g3.objs.size) >>= _) _ _ ⟨g5, gg, dd, tk + 1, oss⟩
  rw [sz3]
  refine wpAny_bind ?_
  unfold Builtin.SmallTypes.ownedTupleHandOut
  refine wpAny_bind (wpAny_setField_rec he5 (by simp) fun g6 he6 hs6 => ?_)
  have hs6 : Heap.SameBut e g5 g6 := hs6
  have he6 : IsEnumOut g6 e z ((i : Int) + 1) (.ref hp.objs.size) (hp.objs.size + 1) := he6
  refine wpAny_setField_rec he6 (by simp) fun g7 he7 hs7 => ?_
  have hs7 : Heap.SameBut e g6 g7 := hs7
  have he7 : IsEnumOut g7 e z ((i : Int) + 1) (.ref hp.objs.size) (hp.objs.size + 1) := he7
  have k7 : ∀ c o, c ≠ e → g4.get? c = some o → g7.get? c = some o := fun c o ce q => hs7.extBut _ _ ce (hs6.extBut _ _ ce (hs5.extBut _ _ ce q))
  have kk : ∀ c o, c ≠ e → g1.get? c = some o → g7.get? c = some o := fun c o ce q => k7 c o ce (k4 c o ce q)
  refine wpAny_bind (wpAny_letGo (wpAny_pure ⟨_, rfl, wpAny_pure ?_⟩))
  obtain ⟨a1, a2, hO1⟩ := hO1
  refine hQ x1 x2 g1 g7 tk hx1 hx2 hN hsz hk kk he7 (hz1.same fun o q => kk _ _ (Ne.symm ez) q) ⟨a1, a2, kk _ _ (Ne.symm eT) hO1⟩ (D1.frame _ _ _ sn1 fun d hd o q => kk d o (fun y => ef1 (y ▸ hd)) q) (D2.frame _ _ _ sn2 fun d hd o q => kk d o (fun y => ef2 (y ▸ hd)) q)
    (k7 _ _ (Nat.ne_of_gt (Nat.lt_succ_of_lt elt)) new4) (by rw [hs7.1, hs6.1, hs5.1, sz4])
theorem enumZ_end {e : Addr} {c : Int} {old : Value} {Q : Option Value → Shared → Prop} (S : ZipSep2 z TI TO i1 i2 fp1 fp2) (D1 : Draws prog w A.in1.in1 i1 fp1 n1 P1 St1) (D2 : Draws prog w A.in1.in1 i2 fp2 n2 P2 St2) (he : IsEnum s.heap e z c old)
    (hz : AnyZip s.heap z TI TO) (hI : IsTupOf2 s.heap TI (.ref i1) (.ref i2)) (hO : ∃ a1 a2, IsTupOf2 s.heap TO a1 a2) (st1 : St1 i s.heap) (st2 : St2 i s.heap) (hl1 : i ≤ n1) (hl2 : i ≤ n2) (hend : i = n1 ∨ i = n2)
    (hQ : ∀ h' tk, (∀ c o, c ≠ z → c ≠ TO → c ≠ i1 → c ≠ i2 → s.heap.get? c = some o → h'.get? c = some o) → Q none { s with heap := h', toks := tk }) :
    wpAny (model prog w) A (pyNext (.ref e)) Q E s := by
  have hT : s.TypeIs (.ref e) "enumerate" := ⟨_, he, rfl⟩
  unfold pyNext
  refine wpAny_bind (wpAny_attempt (wpAny_callSpecial?_slot (name := Str.ofString "__next__") hT F.slot_enumerate_next (wpAny_call_entry F.slot_enumerate_next hT F.entry_enumerate_next ?_ (F.args_enumerate_next_1 _))))
  show wpAny _ _ (field (.ref e) 2 >>= _) _ _ _
  refine wpAny_bind (wpAny_field he rfl (x := .ref z) rfl ?_)
  refine wpAny_bind (zipAny_end S D1 D2 hz hI hO st1 st2 hl1 hl2 hend fun h' tk x hk hx => ?_)
  obtain ⟨o, ho, hc⟩ := hx
  refine wpAny_bind (wpAny_isInstance (T := "StopIteration") (b := true) ⟨o, ho, hc⟩ isSubtype_stop ?_)
  exact wpAny_pure (hQ h' tk hk)
end
/-- two sequences as they stand, each pair of items in a new pair with its count -/
def ItzE (K : PySem.W.Frag) (ka kb : Bool) (a b : Addr) : It :=
  ⟨fun i H => ∃ (xs ys : List V) (x y : V), SqX K ka H a xs ∧ SqX K kb H b ys ∧ xs[i]? = some x ∧ ys[i]? = some y,
    fun i H v H' => ∃ N T x y, v = .ref T ∧ H N = none ∧ (upd H N (.tup [x, y])) T = none ∧ H' = upd (upd H N (.tup [x, y])) T (.tup [.int (i : Nat), .ref N]) ∧ (∀ xs, SqX K ka H a xs → xs[i]? = some x) ∧ ∀ ys, SqX K kb H b ys → ys[i]? = some y,
    fun i H => ∃ xs ys : List V, SqX K ka H a xs ∧ SqX K kb H b ys ∧ (xs.length = i ∨ ys.length = i) ∧ i ≤ xs.length ∧ i ≤ ys.length⟩
theorem turn_enumZ {P : Program} {w : World} {K : PySem.W.Frag} {elts : List Expr} {kk : Nat} {tpos : Pos} {ka kb : Bool} {a b e z TI TO i1 i2 : Addr} (S : ZipSep2 z TI TO i1 i2 [i1, a] [i2, b]) (ha : a ≠ i1) (hb : b ≠ i2) (ne : e ≠ z ∧ e ≠ TI ∧ e ≠ TO ∧ e ≠ i1 ∧ e ≠ i2 ∧ e ≠ a ∧ e ≠ b) :
    Turn P w K (.Tuple elts kk tpos) (ItzE K ka kb a b) [e, z, TI, TO, i1, i2] e (fun i h => (∃ old, IsEnum h e z (i : Nat) old) ∧ AnyZip h z TI TO ∧ IsTupOf2 h TI (.ref i1) (.ref i2) ∧ (∃ x y, IsTupOf2 h TO x y) ∧ ItX ka h i1 a i ∧ ItX kb h i2 b i) where
  mem := by simp
  obj := fun i h st c hc => by
    obtain ⟨⟨old, he⟩, ⟨f, fb, hz, _⟩, hTI, ⟨x, y, hTO⟩, h1, h2⟩ := st
    have e' : c = e ∨ c = z ∨ c = TI ∨ c = TO ∨ c = i1 ∨ c = i2 := by simpa using hc
    rcases e' with q | q | q | q | q | q
    · rw [q]; exact ⟨_, he, fun v q => nomatch q⟩
    · rw [q]; exact ⟨_, hz, fun v q => nomatch q⟩
    · rw [q]; exact ⟨_, hTI, fun v q => nomatch q⟩
    · rw [q]; exact ⟨_, hTO, fun v q => nomatch q⟩
    · rw [q]
      cases ka <;> obtain ⟨o1, e1, _, d1⟩ := h1 <;> exact ⟨o1, e1, fun v q => by rw [d1] at q; cases q⟩
    · rw [q]
      cases kb <;> obtain ⟨o1, e1, _, d1⟩ := h2 <;> exact ⟨o1, e1, fun v q => by rw [d1] at q; cases q⟩
  keep := fun i h h' st k => by
    obtain ⟨⟨old, he⟩, hz, hTI, ⟨x, y, hTO⟩, h1, h2⟩ := st
    exact ⟨⟨old, k e (by simp) _ he⟩, hz.same fun o q => k z (by simp) o q, k TI (by simp) _ hTI, ⟨x, y, k TO (by simp) _ hTO⟩, h1.at fun o q => k i1 (by simp) o q, h2.at fun o q => k i2 (by simp) o q⟩
  item := by
    intro X hP hw hK hc i pins s σ H E I hf st hg
    subst hP hw hK
    obtain ⟨⟨old, he⟩, hz, hTI, hTO, h1, h2⟩ := st
    obtain ⟨xs, ys, x, y, hqx, hqy, hx, hy⟩ := hg
    obtain ⟨its, rv, p, _⟩ := inv_seqX I hqx
    obtain ⟨its2, rv2, p2, _⟩ := inv_seqX I hqy
    obtain ⟨u, hu, ru⟩ := rv.get hx
    obtain ⟨u2, hu2, ru2⟩ := rv2.get hy
    have hel : e < s.heap.objs.size := Heap.lt_size he
    have hzl : z < s.heap.objs.size := hz.lt
    have l1 : i < its.toArray.size := by
      rw [List.size_toArray, ← rv.length]
      exact (List.getElem?_eq_some_iff.mp hx).1
    have l2 : i < its2.toArray.size := by
      rw [List.size_toArray, ← rv2.length]
      exact (List.getElem?_eq_some_iff.mp hy).1
    have e1l : ∃ o, s.heap.get? i1 = some o := let ⟨o, e, _⟩ := h1.ob; ⟨o, e⟩
    have e2l : ∃ o, s.heap.get? i2 = some o := let ⟨o, e, _⟩ := h2.ob; ⟨o, e⟩
    have hh : X.A.in1.in1.handled = none := I.ok.hd hc
    refine enumZ_item S (drX hh ka i1 a ha its.toArray) (drX hh kb i2 b hb its2.toArray) he ⟨ne.1, ne.2.2.1, ne.2.2.2.1, ne.2.2.2.2.1, by simp [ne.2.2.2.1, ne.2.2.2.2.2.1], by simp [ne.2.2.2.2.1, ne.2.2.2.2.2.2]⟩ hz hTI hTO ⟨h1, p⟩ ⟨h2, p2⟩ l1 l2 fun y1 y2 g1 h' tk hP1 hP2 hN hsz1 hk1 hk2 he' z' TO' st1' st2' hT hsz => ?_
    have eu1 : y1 = u := by
      have h1 : its.toArray[i]? = some u := by simpa using hu
      rw [h1] at hP1
      exact (Option.some.inj hP1).symm
    have eu2 : y2 = u2 := by
      have h1 : its2.toArray[i]? = some u2 := by simpa using hu2
      rw [h1] at hP2
      exact (Option.some.inj hP2).symm
    subst eu1 eu2
    have hTI1 := hk1 _ _ S.TIz S.TITO S.TIi1 S.TIi2 hTI
    refine ⟨_, rfl, wpAny_letOwnedTupleGo_enum (s := { s with heap := h', toks := tk + 1 }) he' fun h'' he'' sb => ?_⟩
    have kl : ∀ c o, c ≠ e → h'.get? c = some o → h''.get? c = some o := fun c o ce q => (sb.2 _ ce).trans q
    have new1 : ObjOk X.prog X.w (upd H s.heap.objs.size (.tup [x, y])) g1 s.heap.objs.size (.tup [x, y]) :=
      ⟨by show 2 ≤ sizeLine; decide, [y1, y2], .cons ru (.cons ru2 .nil), ⟨_, hN, rfl, _, rfl⟩⟩
    have I1 : Inv X pins σ (upd H s.heap.objs.size (.tup [x, y])) { s with heap := g1, toks := tk } :=
      I.turnedNew (t' := tk) (ch := [e, z, TI, TO, i1, i2]) (fun c o hb q => hk1 c o (fun q' => hb (by simp [q'])) (fun q' => hb (by simp [q'])) (fun q' => hb (by simp [q'])) (fun q' => hb (by simp [q'])) q) hf (Nat.le_refl _) new1
    have hT2 : h''.get? (s.heap.objs.size + 1) = some { cls := .type "tuple", data := .seq #[.int (i : Nat) tk, .ref s.heap.objs.size] } := kl _ _ (Nat.ne_of_gt (Nat.lt_succ_of_lt hel)) hT
    have lt : ∀ c, c ∈ [e, z, TI, TO, i1, i2] → c < s.heap.objs.size := fun c hcm => by
      obtain ⟨a1, a2, hTO⟩ := hTO
      have e' : c = e ∨ c = z ∨ c = TI ∨ c = TO ∨ c = i1 ∨ c = i2 := by simpa using hcm
      rcases e' with q | q | q | q | q | q
      · rw [q]; exact hel
      · rw [q]; exact hzl
      · rw [q]; exact Heap.lt_size hTI
      · rw [q]; exact Heap.lt_size hTO
      · rw [q]; obtain ⟨_, e1⟩ := e1l; exact Heap.lt_size e1
      · rw [q]; obtain ⟨_, e2⟩ := e2l; exact Heap.lt_size e2
    have new2 : ObjOk X.prog X.w (upd (upd H s.heap.objs.size (.tup [x, y])) (s.heap.objs.size + 1) (.tup [.int (i : Nat), .ref s.heap.objs.size])) h'' (s.heap.objs.size + 1) (.tup [.int (i : Nat), .ref s.heap.objs.size]) :=
      ⟨by show 2 ≤ sizeLine; decide, [.int (i : Nat) tk, .ref s.heap.objs.size], .cons ⟨_, rfl⟩ (.cons rfl .nil), ⟨_, hT2, rfl, _, rfl⟩⟩
    have fe : FpOk X pins (upd H s.heap.objs.size (.tup [x, y])) e := by
      have f0 := hf e (by simp)
      refine ⟨by rw [upd_ne (Nat.ne_of_lt hel)]; exact f0.1, f0.2⟩
    have I2 : Inv X pins σ (upd (upd H s.heap.objs.size (.tup [x, y])) (s.heap.objs.size + 1) (.tup [.int (i : Nat), .ref s.heap.objs.size])) { s with heap := h'', toks := tk + 1 } :=
      I1.turnedNew (t' := tk + 1) (ch := [e]) (fun c o hb q => kl c o (fun q' => hb (by simp [q'])) (hk2 c o (fun q' => hb (by simp [q'])) q)) (fun d hd => by rw [List.mem_singleton.mp hd]; exact fe) (by show g1.objs.size ≤ _; omega) new2
    have nN : (upd H s.heap.objs.size (.tup [x, y])) (s.heap.objs.size + 1) = none := by
      rw [upd_ne (Nat.succ_ne_self _)]
      exact I.hok.fresh (Nat.le_succ _)
    refine ⟨.ref (s.heap.objs.size + 1), _, I2, rfl, ⟨_, _, x, y, rfl, I.hok.fresh (Nat.le_refl _), nN, rfl, fun l hl => by rw [inv_injX I hl hqx]; exact hx, fun l hl => by rw [inv_injX I hl hqy]; exact hy⟩, ⟨⟨.ref s.heap.objs.size, ?_⟩, z'.same fun o q => kl _ _ (Ne.symm ne.1) q, kl _ _ (Ne.symm ne.2.1) (hk2 _ _ (Ne.symm ne.2.1) hTI1), ?_, ?_, ?_⟩, fun c hcm => ?_⟩
    · have e3 : ((i + 1 : Nat) : Int) = (i : Int) + 1 := by omega
      rw [e3]; exact he''
    · obtain ⟨a1, a2, q⟩ := TO'
      exact ⟨a1, a2, kl _ _ (Ne.symm ne.2.2.1) q⟩
    · exact st1'.1.at fun o q => kl _ _ (Ne.symm ne.2.2.2.1) q
    · exact st2'.1.at fun o q => kl _ _ (Ne.symm ne.2.2.2.2.1) q
    · have := lt c hcm
      rw [upd_ne (Nat.ne_of_lt (Nat.lt_succ_of_lt this)), upd_ne (Nat.ne_of_lt this)]
      exact (hf c hcm).1
  done := by
    intro X hP hw hK hc i pins s σ H E I hf st hg
    subst hP hw hK
    obtain ⟨⟨old, he⟩, hz, hTI, hTO, h1, h2⟩ := st
    obtain ⟨xs, ys, hqx, hqy, hend, hi1, hi2⟩ := hg
    obtain ⟨its, rv, p, _⟩ := inv_seqX I hqx
    obtain ⟨its2, rv2, p2, _⟩ := inv_seqX I hqy
    have l1 := rv.length
    have l2 := rv2.length
    have hh : X.A.in1.in1.handled = none := I.ok.hd hc
    exact enumZ_end S (drX hh ka i1 a ha its.toArray) (drX hh kb i2 b hb its2.toArray) he hz hTI hTO ⟨h1, p⟩ ⟨h2, p2⟩ (by simp; omega) (by simp; omega) (by simp; omega) fun h' tk hk => ⟨rfl, I.turnedL (t' := tk) (ch := [e, z, TI, TO, i1, i2]) (fun c o hb q =>
      hk c o (fun q' => hb (by simp [q'])) (fun q' => hb (by simp [q'])) (fun q' => hb (by simp [q'])) (fun q' => hb (by simp [q'])) q) hf⟩
  self := fun A i s Q E st h => let ⟨⟨_, he⟩, _⟩ := st; wpAny_pyIter_enum he h
/-- an enumerate of a zip is made -/
theorem meets_enumZ {z TI TO : Addr} :
    Meets (Builtin.«enumerate.__new__» ⟨[.type "enumerate", .ref z], []⟩) (fun _ R s => IsZip s.heap z TI TO .none ∧
      R (.ok (.ret (.ref s.heap.objs.size))) { s with heap := s.heap.push { cls := .type "enumerate", data := .fields #[.none, .bool false, .ref z, rawInt 0, .none, .none] } }) :=
  .of_wp fun prog w A R s h => by
    obtain ⟨hp, g, d, tk, os⟩ := s; obtain ⟨h1, h⟩ := h
    have hsub := sub_enumerate
    have q1 : ∀ {A' : Around} {E : Value → Shared → Prop} {Q : Value → Shared → Prop}, Q (.ref z) ⟨hp, g, d, tk, os⟩ → wpAny (model prog w) A' (pyIter (.ref z)) Q E ⟨hp, g, d, tk, os⟩ :=
      fun q => wpAny_pyIter_zip h1 q
    wp_walk using q1
    refine wpAny_stack_any fun st => wpAny_pure ?_
    split
    · rename_i c _ _ _ _ _
      cases (c == Value.type "enumerate")
      · wp_walk using q1
        exact ⟨_, rfl, h⟩
      · wp_walk using q1
        exact ⟨_, rfl, h⟩
    · wp_walk using q1
      exact ⟨_, rfl, h⟩
theorem call_enumZ {prog : Program} {w : World} {A : Around} {E : Value → Shared → Prop} {s : Shared} {z TI TO : Addr} {Q : Value → Shared → Prop} (h1 : IsZip s.heap z TI TO .none)
    (h : ∀ h', IsEnum h' s.heap.objs.size z 0 .none → h'.objs.size = s.heap.objs.size + 1 → (∀ b o, s.heap.get? b = some o → h'.get? b = some o) → Q (.ref s.heap.objs.size) { s with heap := h' }) :
    wpAny (model prog w) A (call (.type "enumerate") [.ref z]) Q E s := by
  refine callType_new F.called_enumerate (by decide) (F.typeCall_enumerate_1 _) (F.newCall_enumerate_1 _) (fun obj => F.args_object_init_2 obj _) F.entry_enumerate_new meets_enumZ ⟨h1, ?_⟩
  have he : IsEnum (s.heap.push { cls := .type "enumerate", data := .fields #[.none, .bool false, .ref z, rawInt 0, .none, .none] }) s.heap.objs.size z 0 .none := Heap.get?_push_size _ rfl
  exact ⟨⟨_, he, rfl⟩, h _ he (by rw [Heap.size_push]) fun b o x => Heap.get?_push_of_some _ x⟩
def iEnumZ (K : PySem.W.Frag) (ka kb : Bool) (ta : TA) : TI := fun σ H R => ta σ H fun vs H1 => ∃ a b xs ys, vs = [.ref a, .ref b] ∧ SqX K ka H1 a xs ∧ SqX K kb H1 b ys ∧ R (ItzE K ka kb a b) H1
theorem piEnumZ {X : Cx} (K : PySem.W.Frag) (ka kb : Bool) {e e2 : Expr} {ta : TA} {p p' pos pos' tpos : Pos} {elts : List Expr} {kk : Nat} (hme : X.mg "enumerate" = none) (hm : X.mg "zip" = none) (ha : PA X [e, e2] ta) (hK : X.K = K := by rfl) (hg : Gl X "enumerate" := by rfl) (hg' : Gl X "zip" := by rfl)
    (hs0 : starEach [.Call (.Name "zip" p') [e, e2] [] pos'] X.env = [(false, eval (.Call (.Name "zip" p') [e, e2] [] pos') X.env)] := by rfl)
    (hs : starEach [e, e2] X.env = (false, eval e X.env) :: starEach [e2] X.env := by rfl) (hpl : (backTo pos' (starEach [e2] X.env)).any (·.1) = false := by rfl) :
    PI X (.Tuple elts kk tpos) (.Call (.Name "enumerate" p) [.Call (.Name "zip" p') [e, e2] [] pos'] [] pos) (iEnumZ K ka kb ta) := by
  subst hK
  refine ⟨fun pins s σ H R I h => ?_⟩
  refine Call_ (ld_blt I hg hme boot_enumerate (PyProof.Rows.callWith_type1 ?_ hs0 rfl))
  rw [hs0]
  show wpAny _ _ (spliced ((false, eval (.Call (.Name "zip" p') [e, e2] [] pos') X.env) :: [])) _ _ s
  refine Calls.spliced_cons ?_
  refine Call_ (ld_blt I hg' hm PyProof.Rows.boot_zip (PyProof.Rows.callWith_type1 (thn (ha.run pos' pins s σ H _ I h) fun us s1 ⟨vs, H1, I1, r1, q1⟩ => ?_) hs hpl))
  obtain ⟨a, b, xs, ys, ex, hqx, hqy, q⟩ := q1
  subst ex
  cases r1 with
  | cons r rr =>
    cases rr with
    | cons r' rr =>
      cases rr
      cases r
      cases r'
      obtain ⟨its, rv, p1, hal⟩ := inv_seqX I1 hqx
      obtain ⟨its2, rv2, p2, hbl⟩ := inv_seqX I1 hqy
      refine zip_begins2 (begX ka a its.toArray) (begX kb b its2.toArray) p1 p2 fun h1 hz hTI hTO hi1 hi2 hsz hk => ?_
      refine Calls.spliced_nil ?_
      refine call_enumZ (s := { s1 with heap := h1 }) hz fun h2 he hsz2 hk2 => wpAny_pyIter_enum he ?_
      have hsz2 : h2.objs.size = s1.heap.objs.size + 6 := by rw [hsz2]; show h1.objs.size + 1 = _; rw [hsz]
      have he : IsEnum h2 (s1.heap.objs.size + 5) (s1.heap.objs.size + 4) 0 .none := by
        have := he
        rw [show ({ s1 with heap := h1 } : Shared).heap.objs.size = s1.heap.objs.size + 5 from hsz] at this
        exact this
      have I2 : Inv X pins σ H1 { s1 with heap := h2 } := I1.kept (t' := s1.toks) fun c o q => hk2 c o (hk c o q)
      have S : ZipSep2 (s1.heap.objs.size + 4) (s1.heap.objs.size + 2) (s1.heap.objs.size + 3) s1.heap.objs.size (s1.heap.objs.size + 1) [s1.heap.objs.size, a] [s1.heap.objs.size + 1, b] :=
        zip_sep2 (fun c hc => by rw [List.mem_singleton.mp hc]; exact hal) (fun c hc => by rw [List.mem_singleton.mp hc]; exact hbl)
      have fresh6 : ∀ c, c ∈ [s1.heap.objs.size + 5, s1.heap.objs.size + 4, s1.heap.objs.size + 2, s1.heap.objs.size + 3, s1.heap.objs.size, s1.heap.objs.size + 1] → FpOk X pins H1 c := fun c hcm => by
        have hle : s1.heap.objs.size ≤ c := by
          simp only [List.mem_cons, List.not_mem_nil, or_false] at hcm
          rcases hcm with y | y | y | y | y | y <;> rw [y] <;> first | exact Nat.le_refl _ | exact Nat.le_add_right _ _
        exact I1.fpOk hle (I1.hok.fresh hle)
      have na : ∀ k, a ≠ s1.heap.objs.size + k := fun k => Nat.ne_of_lt (Nat.lt_of_lt_of_le hal (Nat.le_add_right _ _))
      have nb : ∀ k, b ≠ s1.heap.objs.size + k := fun k => Nat.ne_of_lt (Nat.lt_of_lt_of_le hbl (Nat.le_add_right _ _))
      have nn : ∀ j k : Nat, j ≠ k → s1.heap.objs.size + j ≠ s1.heap.objs.size + k := fun j k h e => h (Nat.add_left_cancel e)
      refine ⟨s1.heap.objs.size + 5, [s1.heap.objs.size + 5, s1.heap.objs.size + 4, s1.heap.objs.size + 2, s1.heap.objs.size + 3, s1.heap.objs.size, s1.heap.objs.size + 1], _, _, H1, ?_, I2,
        turn_enumZ S (Nat.ne_of_lt hal) (nb 1) ⟨nn 5 4 (by decide), nn 5 2 (by decide), nn 5 3 (by decide), nn 5 0 (by decide), nn 5 1 (by decide), Ne.symm (na 5), Ne.symm (nb 5)⟩, ⟨⟨.none, he⟩, ⟨_, _, hk2 _ _ hz, .inl rfl⟩, hk2 _ _ hTI, ⟨_, _, hk2 _ _ hTO⟩, itX0 (hk2 _ _ hi1), itX0 (hk2 _ _ hi2)⟩, fresh6, q⟩
      show Value.ref h1.objs.size = _
      rw [hsz]
/-- a pair of a count and of a pair -/
def YTrip (f g : Nat → Option V) : Nat → Hp → V → Hp → Prop := fun i H v H' => ∃ N T x y, v = .ref T ∧ H N = none ∧ (upd H N (.tup [x, y])) T = none ∧ H' = upd (upd H N (.tup [x, y])) T (.tup [.int (i : Nat), .ref N]) ∧ f i = some x ∧ g i = some y
theorem walk_enumZ {K : PySem.W.Frag} {ka kb : Bool} {a b : Addr} {xs ys : List V} {n : Nat} (hn : n = min xs.length ys.length) : Walk (ItzE K ka kb a b) n (fun H => SqX K ka H a xs ∧ SqX K kb H b ys) (YTrip (fun i => xs[i]?) (fun i => ys[i]?)) := by
  subst hn
  refine ⟨fun i _ hi q => ⟨xs, ys, xs[i]'(by omega), ys[i]'(by omega), q.1, q.2, List.getElem?_eq_getElem _, List.getElem?_eq_getElem _⟩, fun _ q => ⟨xs, ys, q.1, q.2, by omega, by omega, by omega⟩, fun i H v H' _ q y => ?_⟩
  obtain ⟨N, T, x, z, e, nN, nT, eH, g1, g2⟩ := y
  exact ⟨N, T, x, z, e, nN, nT, eH, g1 xs q.1, g2 ys q.2⟩
def pEnumZ (ka kb : D → Option (List D)) (p : PX (List D)) : PX (List D) := fun ρ c Q => p ρ c fun ds c1 => ∃ a b xs ys, ds = [a, b] ∧ ka a = some xs ∧ kb b = some ys ∧ Q (zipD (rangeD 0 (zipD xs ys).length) (zipD xs ys)) c1
theorem enumZ_walks {K : PySem.W.Frag} {w1 : Wd} {H1 : Hp} {J : It} {G : Hp → Prop} {n : Nat} {vs us : List V} {xs ys : List D} (hw : Walk J n G (YTrip (fun i => vs[i]?) (fun i => us[i]?))) (hn : n = min vs.length us.length) (hG : ∀ w H, Ls w1 H1 w H → G H) (r1 : RPs K w1 H1 vs xs) (r2 : RPs K w1 H1 us ys) : Walks K (Ls w1 H1) J (zipD (rangeD 0 (zipD xs ys).length) (zipD xs ys)) := by
  refine ⟨G, _, by rw [zipD_len, zipD_len]; unfold rangeD; rw [List.length_map, List.length_range, Nat.min_self, ← r1.len, ← r2.len, ← hn]; exact hw, hG, fun i w c H v H' k l hi y => ?_⟩
  obtain ⟨N, T, x, z, rfl, nN, nT, rfl, fx, gz⟩ := y
  obtain ⟨a, ha, ra⟩ := (l.rps r1).get fx
  obtain ⟨b, hb, rb⟩ := (l.rps r2).get gz
  have l1 : Le w H w (upd H N (.tup [x, z])) := .new nN
  have k1 := k.new (o := .tup [x, z]) nN
  have l2 : Le w (upd H N (.tup [x, z])) w (upd (upd H N (.tup [x, z])) T (.tup [.int (i : Nat), .ref N])) := .new nT
  have hp := zipD_at ha hb
  have hj := (List.getElem?_eq_some_iff.mp hp).1
  refine ⟨_, zipD_at (range_at hj) hp, l1.trans k l2, k1.new nT, Rep.tup (by rw [cut_at (k1.nz nT)]; exact upd_same) (.cons (by rw [Int.zero_add]; exact Rep.int _) (.cons (l2.rp k1 (Rep.tup (by rw [cut_at (k.nz nN)]; exact upd_same) (.cons (l1.rp k ra) (.cons (l1.rp k rb) .nil)))) .nil))⟩
instance {K : PySem.W.Frag} {ka kb : Bool} {ta : TA} {pa : PX (List D)} [h : LA K ta pa] : LI K (iEnumZ K ka kb ta) (pEnumZ (kindD ka) (kindD kb) pa) where
  run := fun w0 H0 c0 w c H σ ρ Qp R k0 RR x k => h.run w0 H0 c0 w c H σ ρ _ _ k0 RR x fun v d w1 c1 H1 l1 o1 r1 q1 => by
    obtain ⟨a, b, xs, ys, rfl, ha, hb, q⟩ := q1
    obtain ⟨v1, v2, rfl, rp1, rp2⟩ := r1.two
    obtain ⟨p, vs, rfl, e1, s1⟩ := kind_rep ha rp1
    obtain ⟨p2, us, rfl, e2, s2⟩ := kind_rep hb rp2
    exact ⟨p, p2, vs, us, rfl, sqX_same cut_same e1, sqX_same cut_same e2, k _ _ w1 c1 H1 l1 o1 (enumZ_walks (walk_enumZ rfl) rfl (fun w H l => ⟨sqX_same cut_same (sqX_same l.c e1), sqX_same cut_same (sqX_same l.c e2)⟩) s1 s2) q⟩
/-! ### a text of two signs turned round: x[::-1] -/
def tRev2 (te : TE) : TE := fun σ H Q => te σ H fun x H1 => ∃ a b : Nat, x = .str ⟨#[a, b]⟩ ∧ Q (.str ⟨#[b, a]⟩) H1
theorem pe_rev2 {X : Cx} {e : Expr} {te : TE} {k : Nat} {p1 p2 p3 pos : Pos} (he : PE X e te) : PE X (.Subscript e (.Slice none none (some (.UnaryOp .USub (.Constant (.int 1) k p1) p2)) p3) pos) (tRev2 te) := by
  refine ⟨fun pins s σ H Q I h => ?_⟩
  refine Subscript_ (thn (he.run pins s σ H _ I h) fun v s1 ⟨x, H1, I1, r1, a, b, ex, q⟩ => ?_)
  subst ex
  obtain ⟨t, rfl⟩ := r1
  have hm1 : PO X (some (.UnaryOp .USub (.Constant (.int 1) k p1) p2)) (tPart (tUn (rU fun i => .int (-i)) (tC (.int 1)))) := po_some (pe_un un_neg pe_int)
  refine wpAny_Slice (thn (po_none.run pins s1 σ H1 (fun o H2 => o = none ∧ H2 = H1) I1 ⟨rfl, rfl⟩) fun vl s2 ⟨l, H2, I2, pl, el, e2⟩ => ?_)
  subst el e2
  refine thn (po_none.run pins s2 σ H2 (fun o H3 => o = none ∧ H3 = H2) I2 ⟨rfl, rfl⟩) fun vu s3 ⟨u, H3, I3, pu, eu, e3⟩ => ?_
  subst eu e3
  refine thn (hm1.run pins s3 σ H3 (fun o H4 => o = some (-1) ∧ H4 = H3) I3 ⟨1, rfl, -1, rfl, rfl, rfl⟩) fun vs s4 ⟨o, H4, I4, ps, eo, e4⟩ => ?_
  subst eo e4
  have I5 : Inv X pins σ H4 { s4 with heap := s4.heap.push { cls := .type "slice", data := .fields #[vl, vu, vs] } } := I4.kept (t' := s4.toks) fun b ob q => Heap.get?_push_of_some _ q
  obtain ⟨l, hl2, hl1⟩ := IsPart.raw pl
  obtain ⟨u, hu2, hu1⟩ := IsPart.raw pu
  obtain ⟨st, hs2, hst⟩ := IsPart.raw ps
  have el : l = none := by cases l with
    | none => rfl
    | some y => cases hl1
  have eu : u = none := by cases u with
    | none => rfl
    | some y => cases hu1
  subst hl2 hu2 hs2 el eu
  refine tail_any (ops := [.str ⟨#[a, b]⟩ t, .ref s4.heap.objs.size]) (T := "str") (typeIs_str _ _ _) F.slot_str_getitem.lookup ?_ (by with_unfolding_all rfl)
  refine wpAny_getItem_str_slice (l := none) (u := none) (st := st) (Heap.IsSliceOf.new _ _ _ _) (by rw [hst]; rfl) ?_
  show Made.post (sliceMade ⟨#[a, b]⟩ t none none st) _ _
  unfold sliceMade
  have e0 : slicePicked ⟨#[a, b]⟩ none none st = [1, 0] := by
    unfold slicePicked
    rw [hst]
    show Builtin.Str.strSliceIndices none none (-1) 2 = [1, 0]
    decide +kernel
  rw [hst, e0]
  show Made.post (if ((-1 : Int) == 1 && _) = true then _ else Made.str ⟨#[b, a]⟩) _ _
  rw [show ((-1 : Int) == 1) = false by decide, Bool.false_and, if_neg Bool.false_ne_true]
  exact ⟨by show 2 ≤ sizeLine; decide, .str _, H4, I5.tok _, ⟨_, rfl⟩, q⟩
def pRev2 (p : PX D) : PX D := fun ρ c Q => p ρ c fun d c1 => ∃ a b : Nat, d = .str ⟨#[a, b]⟩ ∧ Q (.str ⟨#[b, a]⟩) c1
instance {K : PySem.W.Frag} {te : TE} {pe : PX D} [h : LE K te pe] : LE K (tRev2 te) (pRev2 pe) where
  run := fun w0 H0 c0 w c H σ ρ Qp Q k0 R p k => h.run w0 H0 c0 w c H σ ρ _ _ k0 R p fun v d w' c' H' l o r q => by
    obtain ⟨a, b, rfl, q⟩ := q
    rw [RP.str r]
    exact ⟨a, b, rfl, k _ _ w' c' H' l o (Rep.str _) q⟩
/-! ### a tuple repeated, also once -/
theorem tuple_mul1 (l : Addr) (items : Array Value) (n : Nat) (dd : Option Addr) (sl : Array (Option Value)) (u : Tok) :
    Meets (Builtin.«tuple.__mul__» ⟨[.ref l, .int 1 u], []⟩) (fun _ R s => s.heap.get? l = some { cls := .type "tuple", dict := dd, data := .seq items n, slots := sl } ∧ R (.ok (.ret (Value.ref l))) s) :=
  .of_wp fun prog w A R s h => by
    obtain ⟨hp, g, d, tk, os⟩ := s
    obtain ⟨hl, h⟩ := h
    have f1 := AutoSeq1.idx_int
    have c1 : (items.isEmpty || (1 : Int) == 1) = true := by rw [show ((1 : Int) == 1) = true by decide, Bool.or_true]
    wp_walk using wpAny_loadPart' hl
    exact ⟨_, rfl, h⟩
def rRepTK (K : PySem.W.Frag) : R2 := fun x y H Q => ∃ l k xs, x = .ref l ∧ y = .int k ∧ SqT K H l xs ∧ xs ≠ [] ∧ 1 ≤ k ∧ k ≤ 1000 ∧ xs.length ≤ 1000 ∧ (k = 1 → Q x H) ∧ (2 ≤ k → ∀ p, H p = none → Q (.ref p) (upd H p (.tup (List.replicate k.toNat xs).flatten)))
theorem op_repTK {X : Cx} (K : PySem.W.Frag) (hK : X.K = K := by rfl) : OpR X (binaryOp .Mult) (rRepTK K) := by
  subst hK
  intro pins s σ H x y v u Q I rx ry h
  obtain ⟨l, k, xs, rfl, rfl, hT, hne, h1, h2, hz, q1, q2⟩ := h
  by_cases e : k = 1
  · subst e
    have q := q1 rfl
    cases rx
    obtain ⟨t, rfl⟩ := ry
    obtain ⟨its, r, ⟨⟨cls, dd, data, sl⟩, ho, hc, n, hd⟩, hs⟩ := I.tuple hT
    simp only at hc hd
    subst hc hd
    refine wpAny_binaryOp_repeat_ref (T := "tuple") (U := "int") (by decide) ⟨_, ho, rfl⟩ (fun s' => typeIs_int s' 1 t) noFill_tuple_mul F.fills_int_mul F.slot_int_rmul repeat_tuple F.slot_int_index.lookup
      (call_meets F.slot_int_rmul (typeIs_int s 1 t) F.entry_int_rmul (F.args_int_rmul_2 _ _) (int_rmul_tuple 1 t l its.toArray n dd sl)
        ⟨ho, rfl, ⟨_, ho, rfl⟩, call_meets F.slot_tuple_mul ⟨_, ho, rfl⟩ F.entry_tuple_mul (F.args_tuple_mul_2 _ _) (tuple_mul1 l its.toArray n dd sl t) ⟨ho, ?_⟩⟩)
    exact ⟨.ref l, H, I, rfl, q⟩
  · exact op_repT pins s σ H _ _ _ _ Q I rx ry ⟨l, k, xs, rfl, rfl, hT, hne, by omega, h2, hz, q2 (by omega)⟩
def pRepTK : D → PR D D := fun a b c Q => ∃ xs k, a = .tup xs ∧ b = .int k ∧ xs ≠ [] ∧ 1 ≤ k ∧ k ≤ 1000 ∧ xs.length ≤ 1000 ∧ Q (.tup (List.replicate k.toNat xs).flatten) c
instance {K : PySem.W.Frag} : LR2 K (rRepTK K) pRepTK where
  run := fun w c H x y a b Qp Q o r1 r2 p k => by
    obtain ⟨xs, n, rfl, rfl, hne, h1, h2, hl, q⟩ := p
    rw [r2.int]
    obtain ⟨p, vs, rfl, hp, r⟩ := r1.tup
    refine ⟨p, n, vs, rfl, rfl, hp, fun e => hne ?_, h1, h2, by rw [r.len]; exact hl, fun e => ?_, fun _ t nt => ?_⟩
    · subst e
      cases r
      rfl
    · subst e
      have e1 : (List.replicate (1 : Int).toNat xs).flatten = xs := by
        show (List.replicate 1 xs).flatten = xs
        rw [List.replicate_one, List.flatten_cons, List.flatten_nil, List.append_nil]
      rw [e1] at q
      exact k _ _ w c H .refl o (RP.tupq (vs := vs) r1) q
    · exact k (.ref t) _ w c _ (.new nt) (o.new nt) (Rep.tup (by rw [cut_at (o.nz nt)]; exact upd_same) ((Le.new nt).rps o (r.flat n.toNat))) q
end WK
/-! ## zip of three lists or tuples -/
namespace WK
open PySem PySem.Spec PySem.W PyProof.Rows L2 RZ WP
def ItzM3 (K : PySem.W.Frag) (ka kb kc : Bool) (a b d : Addr) : It :=
  ⟨fun i H => ∃ (xs ys zs : List V) (x y u : V), SqX K ka H a xs ∧ SqX K kb H b ys ∧ SqX K kc H d zs ∧ xs[i]? = some x ∧ ys[i]? = some y ∧ zs[i]? = some u,
    fun i H v H' => ∃ T x y u, v = .ref T ∧ H T = none ∧ H' = upd H T (.tup [x, y, u]) ∧ (∀ xs, SqX K ka H a xs → xs[i]? = some x) ∧ (∀ ys, SqX K kb H b ys → ys[i]? = some y) ∧ ∀ zs, SqX K kc H d zs → zs[i]? = some u,
    fun i H => ∃ xs ys zs : List V, SqX K ka H a xs ∧ SqX K kb H b ys ∧ SqX K kc H d zs ∧ (i = xs.length ∨ i = ys.length ∨ i = zs.length) ∧ i ≤ xs.length ∧ i ≤ ys.length ∧ i ≤ zs.length⟩
theorem turn_zipM3 {P : Program} {w : World} {K : PySem.W.Frag} {elts : List Expr} {kk : Nat} {tpos : Pos} {ka kb kc : Bool} {a b d z TI TO i1 i2 i3 : Addr} (S : ZipSep3 z TI TO i1 i2 i3 [i1, a] [i2, b] [i3, d]) (ha : a ≠ i1) (hb : b ≠ i2) (hd : d ≠ i3) :
    Turn P w K (.Tuple elts kk tpos) (ItzM3 K ka kb kc a b d) [z, TI, TO, i1, i2, i3] z (fun i h => IsZip h z TI TO .none ∧ IsTupOf3 h TI (.ref i1) (.ref i2) (.ref i3) ∧ (∃ x y u, IsTupOf3 h TO x y u) ∧ ItX ka h i1 a i ∧ ItX kb h i2 b i ∧ ItX kc h i3 d i) where
  mem := by simp
  obj := fun i h st c hc => by
    obtain ⟨hz, hTI, ⟨x, y, u, hTO⟩, h1, h2, h3⟩ := st
    have e' : c = z ∨ c = TI ∨ c = TO ∨ c = i1 ∨ c = i2 ∨ c = i3 := by simpa using hc
    rcases e' with q | q | q | q | q | q
    · rw [q]; exact ⟨_, hz, fun v q => nomatch q⟩
    · rw [q]; exact ⟨_, hTI, fun v q => nomatch q⟩
    · rw [q]; exact ⟨_, hTO, fun v q => nomatch q⟩
    · rw [q]
      cases ka <;> obtain ⟨o1, e1, _, d1⟩ := h1 <;> exact ⟨o1, e1, fun v q => by rw [d1] at q; cases q⟩
    · rw [q]
      cases kb <;> obtain ⟨o1, e1, _, d1⟩ := h2 <;> exact ⟨o1, e1, fun v q => by rw [d1] at q; cases q⟩
    · rw [q]
      cases kc <;> obtain ⟨o1, e1, _, d1⟩ := h3 <;> exact ⟨o1, e1, fun v q => by rw [d1] at q; cases q⟩
  keep := fun i h h' st k => by
    obtain ⟨hz, hTI, ⟨x, y, u, hTO⟩, h1, h2, h3⟩ := st
    exact ⟨k z (by simp) _ hz, k TI (by simp) _ hTI, ⟨x, y, u, k TO (by simp) _ hTO⟩, h1.at fun o q => k i1 (by simp) o q, h2.at fun o q => k i2 (by simp) o q, h3.at fun o q => k i3 (by simp) o q⟩
  item := by
    intro X hP hw hK hc i pins s σ H E I hf st hg
    subst hP hw hK
    obtain ⟨hz, hTI, ⟨x0, y0, u0, hTO⟩, h1, h2, h3⟩ := st
    obtain ⟨xs, ys, zs, x, y, t, hqx, hqy, hqz, hx, hy, ht⟩ := hg
    obtain ⟨its, rv, p, _⟩ := inv_seqX I hqx
    obtain ⟨its2, rv2, p2, _⟩ := inv_seqX I hqy
    obtain ⟨its3, rv3, p3, _⟩ := inv_seqX I hqz
    obtain ⟨u, hu, ru⟩ := rv.get hx
    obtain ⟨u2, hu2, ru2⟩ := rv2.get hy
    obtain ⟨u3, hu3, ru3⟩ := rv3.get ht
    have hzl : z < s.heap.objs.size := Heap.lt_size hz
    have l1 : i < its.toArray.size := by
      rw [List.size_toArray, ← rv.length]
      exact (List.getElem?_eq_some_iff.mp hx).1
    have l2 : i < its2.toArray.size := by
      rw [List.size_toArray, ← rv2.length]
      exact (List.getElem?_eq_some_iff.mp hy).1
    have l3 : i < its3.toArray.size := by
      rw [List.size_toArray, ← rv3.length]
      exact (List.getElem?_eq_some_iff.mp ht).1
    have e1l : ∃ o, s.heap.get? i1 = some o := let ⟨o, e, _⟩ := h1.ob; ⟨o, e⟩
    have e2l : ∃ o, s.heap.get? i2 = some o := let ⟨o, e, _⟩ := h2.ob; ⟨o, e⟩
    have e3l : ∃ o, s.heap.get? i3 = some o := let ⟨o, e, _⟩ := h3.ob; ⟨o, e⟩
    have hh : X.A.in1.handled = none := I.ok.hd hc
    have zi1 : z ≠ i1 := fun e => S.zf1 (by rw [e]; exact S.mem1)
    have zi2 : z ≠ i2 := fun e => S.zf2 (by rw [e]; exact S.mem2)
    have zi3 : z ≠ i3 := fun e => S.zf3 (by rw [e]; exact S.mem3)
    refine wpAny_pyNext_zipD3_item S (drX hh ka i1 a ha its.toArray) (drX hh kb i2 b hb its2.toArray) (drX hh kc i3 d hd its3.toArray) hz hTI hTO ⟨h1, p⟩ ⟨h2, p2⟩ ⟨h3, p3⟩ l1 l2 l3 fun y1 y2 y3 h' tk hP1 hP2 hP3 z' TO' st1' st2' st3' hT hsz hk => ?_
    have eu1 : y1 = u := by
      have h1 : its.toArray[i]? = some u := by simpa using hu
      rw [h1] at hP1
      exact (Option.some.inj hP1).symm
    have eu2 : y2 = u2 := by
      have h1 : its2.toArray[i]? = some u2 := by simpa using hu2
      rw [h1] at hP2
      exact (Option.some.inj hP2).symm
    have eu3 : y3 = u3 := by
      have h1 : its3.toArray[i]? = some u3 := by simpa using hu3
      rw [h1] at hP3
      exact (Option.some.inj hP3).symm
    subst eu1 eu2 eu3
    refine ⟨_, rfl, wpAny_letOwnedTupleGo_zip (s := { s with heap := h', toks := tk }) z' fun h'' z'' sb => ?_⟩
    have hT2 : h''.get? s.heap.objs.size = some { cls := .type "tuple", data := .seq #[y1, y2, y3] } := (sb.2 _ (Nat.ne_of_gt hzl)).trans hT
    have new : ObjOk X.prog X.w (upd H s.heap.objs.size (.tup [x, y, t])) h'' s.heap.objs.size (.tup [x, y, t]) :=
      ⟨by show 3 ≤ sizeLine; decide, [y1, y2, y3], .cons ru (.cons ru2 (.cons ru3 .nil)), ⟨_, hT2, rfl, _, rfl⟩⟩
    have I1 : Inv X pins σ (upd H s.heap.objs.size (.tup [x, y, t])) { s with heap := h'', toks := tk } :=
      I.turnedNew (t' := tk) (ch := [z, TI, TO, i1, i2, i3]) (fun c o hb q => (sb.2 c (fun q' => hb (by simp [q']))).trans (hk c o (fun q' => hb (by simp [q'])) (fun q' => hb (by simp [q'])) (fun q' => hb (by simp [q'])) (fun q' => hb (by simp [q'])) (fun q' => hb (by simp [q'])) q)) hf (Nat.le_refl _) new
    refine ⟨.ref s.heap.objs.size, _, I1, rfl, ⟨_, x, y, t, rfl, I.hok.fresh (Nat.le_refl _), rfl, fun l hl => by rw [inv_injX I hl hqx]; exact hx, fun l hl => by rw [inv_injX I hl hqy]; exact hy, fun l hl => by rw [inv_injX I hl hqz]; exact ht⟩, ⟨z'', ?_, ⟨y1, y2, y3, ?_⟩, ?_, ?_, ?_⟩, fun c hcm => ?_⟩
    · exact (sb.2 _ S.TIz).trans (hk _ _ S.TIz S.TITO S.TIi1 S.TIi2 S.TIi3 hTI)
    · exact (sb.2 _ S.TOz).trans TO'
    · exact st1'.1.at fun o q => (sb.2 _ (Ne.symm zi1)).trans q
    · exact st2'.1.at fun o q => (sb.2 _ (Ne.symm zi2)).trans q
    · exact st3'.1.at fun o q => (sb.2 _ (Ne.symm zi3)).trans q
    · have hlt : c < s.heap.objs.size := by
        have e' : c = z ∨ c = TI ∨ c = TO ∨ c = i1 ∨ c = i2 ∨ c = i3 := by simpa using hcm
        rcases e' with q | q | q | q | q | q
        · rw [q]; exact hzl
        · rw [q]; exact Heap.lt_size hTI
        · rw [q]; exact Heap.lt_size hTO
        · rw [q]; obtain ⟨_, e1⟩ := e1l; exact Heap.lt_size e1
        · rw [q]; obtain ⟨_, e2⟩ := e2l; exact Heap.lt_size e2
        · rw [q]; obtain ⟨_, e3⟩ := e3l; exact Heap.lt_size e3
      rw [upd_ne (Nat.ne_of_lt hlt)]
      exact (hf c hcm).1
  done := by
    intro X hP hw hK hc i pins s σ H E I hf st hg
    subst hP hw hK
    obtain ⟨hz, hTI, ⟨x0, y0, u0, hTO⟩, h1, h2, h3⟩ := st
    obtain ⟨xs, ys, zs, hqx, hqy, hqz, hend, hi1, hi2, hi3⟩ := hg
    obtain ⟨its, rv, p, _⟩ := inv_seqX I hqx
    obtain ⟨its2, rv2, p2, _⟩ := inv_seqX I hqy
    obtain ⟨its3, rv3, p3, _⟩ := inv_seqX I hqz
    have l1 := rv.length
    have l2 := rv2.length
    have l3 := rv3.length
    have hh : X.A.in1.handled = none := I.ok.hd hc
    exact wpAny_pyNext_zipD3_end S (drX hh ka i1 a ha its.toArray) (drX hh kb i2 b hb its2.toArray) (drX hh kc i3 d hd its3.toArray) hz hTI hTO ⟨h1, p⟩ ⟨h2, p2⟩ ⟨h3, p3⟩ (by simp; omega) (by simp; omega) (by simp; omega) (by simp; omega) fun h' tk hk => ⟨rfl, I.turnedL (t' := tk) (ch := [z, TI, TO, i1, i2, i3]) (fun c o hb q =>
      hk c o (fun q' => hb (by simp [q'])) (fun q' => hb (by simp [q'])) (fun q' => hb (by simp [q'])) (fun q' => hb (by simp [q'])) (fun q' => hb (by simp [q'])) q) hf⟩
  self := fun A i s Q E st h => wpAny_pyIter_zip st.1 h
def iZipM3 (K : PySem.W.Frag) (ka kb kc : Bool) (ta : TA) : TI := fun σ H R => ta σ H fun vs H1 => ∃ a b d xs ys zs, vs = [.ref a, .ref b, .ref d] ∧ SqX K ka H1 a xs ∧ SqX K kb H1 b ys ∧ SqX K kc H1 d zs ∧ R (ItzM3 K ka kb kc a b d) H1
theorem piZipM3 {X : Cx} (K : PySem.W.Frag) (ka kb kc : Bool) {e e2 e3 : Expr} {ta : TA} {p pos tpos : Pos} {elts : List Expr} {kk : Nat} (hm : X.mg "zip" = none) (ha : PA X [e, e2, e3] ta) (hK : X.K = K := by rfl) (hg : Gl X "zip" := by rfl)
    (hs : starEach [e, e2, e3] X.env = (false, eval e X.env) :: starEach [e2, e3] X.env := by rfl) (hpl : (backTo pos (starEach [e2, e3] X.env)).any (·.1) = false := by rfl) :
    PI X (.Tuple elts kk tpos) (.Call (.Name "zip" p) [e, e2, e3] [] pos) (iZipM3 K ka kb kc ta) := by
  subst hK
  refine ⟨fun pins s σ H R I h => ?_⟩
  refine Call_ (ld_blt I hg hm PyProof.Rows.boot_zip (PyProof.Rows.callWith_type1 (thn (ha.run pos pins s σ H _ I h) fun us s1 ⟨vs, H1, I1, r1, q1⟩ => ?_) hs hpl))
  obtain ⟨a, b, d, xs, ys, zs, ex, hqx, hqy, hqz, q⟩ := q1
  subst ex
  cases r1 with
  | cons r rr =>
    cases rr with
    | cons r' rr =>
      cases rr with
      | cons r'' rr =>
        cases rr
        cases r
        cases r'
        cases r''
        have fresh6 : ∀ c, c ∈ [s1.heap.objs.size + 5, s1.heap.objs.size + 3, s1.heap.objs.size + 4, s1.heap.objs.size, s1.heap.objs.size + 1, s1.heap.objs.size + 2] → FpOk X pins H1 c := fun c hcm => by
          have hle : s1.heap.objs.size ≤ c := by
            simp only [List.mem_cons, List.not_mem_nil, or_false] at hcm
            rcases hcm with y | y | y | y | y | y <;> rw [y] <;> first | exact Nat.le_refl _ | exact Nat.le_add_right _ _
          exact I1.fpOk hle (I1.hok.fresh hle)
        obtain ⟨its, rv, p1, hal⟩ := inv_seqX I1 hqx
        obtain ⟨its2, rv2, p2, hbl⟩ := inv_seqX I1 hqy
        obtain ⟨its3, rv3, p3, hdl⟩ := inv_seqX I1 hqz
        refine zip_begins3 (begX ka a its.toArray) (begX kb b its2.toArray) (begX kc d its3.toArray) p1 p2 p3 fun h' hz hTI hTO h1 h2 h3 hsz hk => wpAny_pyIter_zip hz ?_
        have I2 : Inv X pins σ H1 { s1 with heap := h' } := I1.kept (t' := s1.toks) hk
        have S : ZipSep3 (s1.heap.objs.size + 5) (s1.heap.objs.size + 3) (s1.heap.objs.size + 4) s1.heap.objs.size (s1.heap.objs.size + 1) (s1.heap.objs.size + 2) [s1.heap.objs.size, a] [s1.heap.objs.size + 1, b] [s1.heap.objs.size + 2, d] :=
          zip_sep3 (fun c hc => by rw [List.mem_singleton.mp hc]; exact hal) (fun c hc => by rw [List.mem_singleton.mp hc]; exact hbl) (fun c hc => by rw [List.mem_singleton.mp hc]; exact hdl)
        exact ⟨s1.heap.objs.size + 5, [s1.heap.objs.size + 5, s1.heap.objs.size + 3, s1.heap.objs.size + 4, s1.heap.objs.size, s1.heap.objs.size + 1, s1.heap.objs.size + 2], _, _, H1, rfl, I2, turn_zipM3 S (Nat.ne_of_lt hal) (Nat.ne_of_lt (Nat.lt_succ_of_lt hbl)) (Nat.ne_of_lt (Nat.lt_succ_of_lt (Nat.lt_succ_of_lt hdl))), ⟨hz, hTI, ⟨_, _, _, hTO⟩, itX0 h1, itX0 h2, itX0 h3⟩, fresh6, q⟩
def YT3 (f g k : Nat → Option V) : Nat → Hp → V → Hp → Prop := fun i H v H' => ∃ T x y u, v = .ref T ∧ H T = none ∧ H' = upd H T (.tup [x, y, u]) ∧ f i = some x ∧ g i = some y ∧ k i = some u
theorem walk_zipM3 {K : PySem.W.Frag} {ka kb kc : Bool} {a b d : Addr} {xs ys zs : List V} {n : Nat} (h1 : xs.length = n) (h2 : ys.length = n) (h3 : zs.length = n) : Walk (ItzM3 K ka kb kc a b d) n (fun H => SqX K ka H a xs ∧ SqX K kb H b ys ∧ SqX K kc H d zs) (YT3 (fun i => xs[i]?) (fun i => ys[i]?) (fun i => zs[i]?)) := by
  refine ⟨fun i _ hi q => ⟨xs, ys, zs, xs[i]'(by omega), ys[i]'(by omega), zs[i]'(by omega), q.1, q.2.1, q.2.2, List.getElem?_eq_getElem _, List.getElem?_eq_getElem _, List.getElem?_eq_getElem _⟩, fun _ q => ⟨xs, ys, zs, q.1, q.2.1, q.2.2, by omega, by omega, by omega, by omega⟩, fun i H v H' _ q y => ?_⟩
  obtain ⟨T, x, z, u, e, nT, eH, g1, g2, g3⟩ := y
  exact ⟨T, x, z, u, e, nT, eH, g1 xs q.1, g2 ys q.2.1, g3 zs q.2.2⟩
/-- rows of like lengths -/
def pZip3 (ka kb kc : D → Option (List D)) (p : PX (List D)) : PX (List D) := fun ρ c Q => p ρ c fun ds c1 => ∃ (n : Nat) (f g k : Nat → D), ∃ a b d, ds = [a, b, d] ∧ ka a = some ((List.range n).map f) ∧ kb b = some ((List.range n).map g) ∧ kc d = some ((List.range n).map k) ∧ Q ((List.range n).map fun i => .tup [f i, g i, k i]) c1
theorem row_get {K : PySem.W.Frag} {w : Wd} {H : Hp} {vs : List V} {n i : Nat} {f : Nat → D} {x : V} (r : RPs K w H vs ((List.range n).map f)) (h : vs[i]? = some x) : RP K w H x (f i) := by
  obtain ⟨a, ha, ra⟩ := r.get h
  rw [List.getElem?_map] at ha
  obtain ⟨j, hj, rfl⟩ := Option.map_eq_some_iff.mp ha
  have hi := (List.getElem?_eq_some_iff.mp hj).1
  rw [List.length_range] at hi
  rw [List.getElem?_range hi] at hj
  cases hj
  exact ra
instance {K : PySem.W.Frag} {ka kb kc : Bool} {ta : TA} {pa : PX (List D)} [h : LA K ta pa] : LI K (iZipM3 K ka kb kc ta) (pZip3 (kindD ka) (kindD kb) (kindD kc) pa) where
  run := fun w0 H0 c0 w c H σ ρ Qp R k0 RR x k => h.run w0 H0 c0 w c H σ ρ _ _ k0 RR x fun v e w1 c1 H1 l1 o1 r1 q1 => by
    obtain ⟨n, f, g, kf, a, b, d, rfl, ha, hb, hd, q⟩ := q1
    obtain ⟨v1, vr, rfl, rp1, rr⟩ : ∃ v1 vr, v = v1 :: vr ∧ RP K w1 H1 v1 a ∧ RPs K w1 H1 vr [b, d] := by
      cases r1 with
      | cons x y => exact ⟨_, _, rfl, x, y⟩
    obtain ⟨v2, v3, rfl, rp2, rp3⟩ := rr.two
    obtain ⟨p, vs, rfl, e1, s1⟩ := kind_rep ha rp1
    obtain ⟨p2, us, rfl, e2, s2⟩ := kind_rep hb rp2
    obtain ⟨p3, ts, rfl, e3, s3⟩ := kind_rep hd rp3
    have n1 : vs.length = n := by rw [s1.len, List.length_map, List.length_range]
    have n2 : us.length = n := by rw [s2.len, List.length_map, List.length_range]
    have n3 : ts.length = n := by rw [s3.len, List.length_map, List.length_range]
    have W : Walks K (Ls w1 H1) (ItzM3 K ka kb kc p p2 p3) ((List.range n).map fun i => .tup [f i, g i, kf i]) := by
      refine ⟨fun H => SqX K ka H p vs ∧ SqX K kb H p2 us ∧ SqX K kc H p3 ts, YT3 (fun i => vs[i]?) (fun i => us[i]?) (fun i => ts[i]?), by rw [List.length_map, List.length_range]; exact walk_zipM3 n1 n2 n3, fun w H l => ⟨sqX_same cut_same (sqX_same l.c e1), sqX_same cut_same (sqX_same l.c e2), sqX_same cut_same (sqX_same l.c e3)⟩, fun i w c H x H' kw l hi y => ?_⟩
      obtain ⟨T, y1, y2, y3, rfl, nT, rfl, f1, f2, f3⟩ := y
      rw [List.length_map, List.length_range] at hi
      have l2 : Le w H w (upd H T (.tup [y1, y2, y3])) := .new nT
      exact ⟨.tup [f i, g i, kf i], by rw [List.getElem?_map, List.getElem?_range hi]; rfl, l2, kw.new nT, Rep.tup (by rw [cut_at (kw.nz nT)]; exact upd_same) (.cons (l2.rp kw (row_get (l.rps s1) f1)) (.cons (l2.rp kw (row_get (l.rps s2) f2)) (.cons (l2.rp kw (row_get (l.rps s3) f3)) .nil)))⟩
    exact ⟨p, p2, p3, vs, us, ts, rfl, sqX_same cut_same e1, sqX_same cut_same e2, sqX_same cut_same e3, k _ _ w1 c1 H1 l1 o1 W q⟩
end WK
/-! ## an owned list is lent to a call that gives back a scalar -/
namespace WP
open PySem PySem.Spec PyProof.Rows L2 WK
def tBor (_ : Nat) (te : TE) : TE := te
theorem pe_bor {X : Cx} {e : Expr} {te : TE} (i : Nat) (h : PE X e te) : PE X e (tBor i te) := h
def pBor (i : Nat) (p : PX D) : PX D := fun ρ c Q => ∃ xs, ρ[i]? = some (some (.own xs)) ∧ p (ρ.set i (some (.val (.lst xs)))) c fun d c' => flatD d = true ∧ Q d c'
theorem RP.flat_any {K : PySem.W.Frag} {w w' : Wd} {H H' : Hp} {v : V} {d : D} (h : RP K w H v d) (f : flatD d = true) : RP K w' H' v d := by
  cases d with
  | non => cases h; exact Rep.non
  | bl b => cases h; exact Rep.bl b
  | int i => cases h; exact Rep.int i
  | str x => cases h; exact Rep.str x
  | _ => cases f
instance {K : PySem.W.Frag} {i : Nat} {te : TE} {pe : PX D} [h : LE K te pe] : LE K (tBor i te) (pBor i pe) where
  run := fun w0 H0 c0 w c H σ ρ Qp Q k0 R p k => by
    obtain ⟨xs, hx, p⟩ := p
    obtain ⟨a, ha⟩ := R.own_ref hx
    obtain ⟨hz, hs, hn, vs, e2, r2⟩ := R.own_some hx ha
    obtain ⟨R1, l1⟩ := R.frz hx ha k0
    refine h.run w0 H0 c0 (w.show a) c H σ _ _ _ k0 R1 p fun v d w' c' H' l o r q => ?_
    have sa : ¬ w'.S a := fun s => by
      rcases l.s' a s with s | s
      · exact hs s
      · rw [e2] at s
        cases s
    have ea : H' a = some (.lst vs) := l.ex a _ hs e2
    have lw : Le w H (w'.hide a) H' := ⟨l.s, fun b z => by
      by_cases e : b = a
      · exact .inr e
      · exact .inl (l.z b ⟨z, e⟩), l.s', fun b z => by
      rcases z with z | z
      · exact (l.z' b z).imp (fun y => y.1) id
      · exact .inl (by rw [z]; exact hz), l.ex⟩
    have ow : WOk (w'.hide a) c' H' := ⟨fun b s => .inl (o.sz b s), fun b z => by
      rcases z with z | z
      · exact o.al b z
      · exact ⟨.lst vs, by rw [z]; exact ea, fun xs e => nomatch e⟩, o.br⟩
    exact k v d (w'.hide a) c' H' lw ow (RP.flat_any r q.1) q.2
end WP
set_option synthInstance.maxSize 100000
set_option synthInstance.maxHeartbeats 0
namespace K15
open PySem PySem.Spec PyProof.Rows L2 WK WP
local macro_rules | `(tactic| walk_at "vc") => `(tactic| try simp only [tSeq, tAsg, tPar, tPar3, tIfS, tIf, tTest, tB, tOp, tUn, rU, rI0, rI, rEq, rNe, tVar, tC, tCB, tCons, tNil, tCal, gName, gSub, gTup, gCons, gNil, tRet, tRetN, tDrop, tLst, tTup, tNext, tBits, tChain, tAnd, tOr, tNot, tAndV, tOrV, tNotV, tSl, tPart, tNoPart, tBM, tBM0, tAug, tEx, tNever, rSetL, for_eq, lc_eq, yes_eq, scal_ii, scal_bb, scal_ss, scal_nn, scal_in, scal_ni, scal_sn, scal_ns, scal_bn, scal_nb, scal_is, scal_si, iRng1, iRng2, iRng3, iList, iTup, wipe,
  L2.start, isi_int, isi_str, isi_bl, isi_non, kit_ii, kit_ss, kit_bb, kit_ib, kit_is, kit_it, kit_il, kit_si, kit_sb, kit_st, kit_sl, kit_bi, kit_bs, kit_bt, kit_ni, kit_ns, kit_nt, kit_tt, kit_tl, kit_ti, kit_ts, kit_ll, kit_lt, kit_li, kit_ls, cxK, cxnK, iZipM, SqX, iZipT, iZipL, iEnum, iEnumT, tDisp, tPairs, tDGet, tLstRg, tTupRg, tRg1, tRg2, rSumT, rLenU, RZ.iZipA, tMk, tPrp, iStr, rMulS, rJn, rTupU, rListU, rIxS, rSlS, rAppend, tyv_s, tFld, sFld, rRep, rCat, rIxL, rIxT, rIntI, rIntB, rIsi, LenV, List.map_cons, List.map_nil, List.cons_append, List.nil_append, List.length_cons, List.length_nil, List.replicate, List.getElem?_cons_zero, List.getElem?_cons_succ, Option.some.injEq, exists_eq_left', V.int.injEq, V.str.injEq, List.cons.injEq, V.ref.injEq, V.bl.injEq,
  exists_and_left, exists_eq_left, exists_eq, and_true, true_and, and_assoc, List.set_cons_zero, List.set_cons_succ, Nat.reduceAdd, Nat.reduceSub, if_true, if_false, Bool.false_eq_true, reduceIte, Bool.not_true, Bool.not_false, decide_true, decide_false, reduceCtorEq, false_and, and_false, or_false, false_or, exists_false])
local macro_rules | `(tactic| walk_at "pl") => `(tactic| try simp only [pSeq, pAsg, pSet, pPar, pPar3, pIfS, pIf, pTest, pOp, pUn, pU, pII, pII0, pEq, pNe, pVar, pVarB, pC, pCB, pCons, pNil, pSCons, pSNil, pOwn, pVal, pList, pLst, pCal, pPrp, pgName, pgTupl, pgCons, pgNil, pRet, pRetN, pDrop, pTup, pNext, pBits, pChain, pAnd, pOr, pNot, pAndV, pOrV, pNotV, pSl, pPart, pNoPart, pBM, pBM0, pNever, pAppend, pExtend, pPut, pPop, pFrz, pFor, pWhile, pLc, pYes, pItL, pItT, pItS, pRng1, pRng2, pRng3, pZip, pEnum, pShr, pShl, pShl1, pIsN, pNotN, pIsB, pAddS, pMulS, pInS, pNotInS, pLtS, pIn, pIxL, pIxT, pIxS, pSlL, pSlT, pSlS, pCat, pRep, pCatA, pLen, pSum, pSumT, pMaxL, pMinL, pAll, pAny, pC2, pSorted, pListU, pTupU, pIntI, pIntB, pStrI, pSIndex, pSCount, pJoin, pIsTy, pIsCl, pDNew, pFld, pFldO, pSFld, pRepTK, pRev2, pEnumZ, pZip3, pBor, startI_eq, pEqD, pNeD, pRepr,
  startP_eq, isNon_non, isNon_int, isNon_tup, isNon_lst, isNon_str, isNon_bl, lenD_lst, lenD_tup, lenD_slst, lenD_str, dV_int, dV_bl, dV_str, dV_non, sl_val, sl_own, isObj_val, isObj_own, lst_tup, lst_lst, seq_lst, seq_tup, kind_t, kind_f, ty_str, ty_lst, frz_cons, frz_0o, frz_0v, frz_0n, wipeP_nil, wipeP_cons, lk_1, atI_0, atI_1, atI_2, atI_3, pSlA, okTy_int, isTy_non_int, isTy_bl_int, isTy_int_int, isTy_str_int, isTy_tup_int, isTy_lst_int, okTy_bool, isTy_non_bool, isTy_bl_bool, isTy_int_bool, isTy_str_bool, isTy_tup_bool, isTy_lst_bool, okTy_str, isTy_non_str, isTy_bl_str, isTy_int_str, isTy_str_str, isTy_tup_str, isTy_lst_str, okTy_tuple, isTy_non_tuple, isTy_bl_tuple, isTy_int_tuple, isTy_str_tuple, isTy_tup_tuple, isTy_lst_tuple, okTy_list, isTy_non_list, isTy_bl_list, isTy_int_list, isTy_str_list, isTy_tup_list, isTy_lst_list, isTy_dic_int, isTy_dic_bool, isTy_dic_str, isTy_dic_tuple, isTy_dic_list, plain_non, plain_bl, plain_int, plain_str, plain_tup, plain_lst, plain_dic, Int.cast_ofNat_Int, eq_self, exists_eq', Int.toNat_natCast, Int.reduceEq, Int.reduceLE, Int.reduceLT, List.length_map, List.length_range, List.length_set, dPr_eq, dBox_eq, dSh_eq, letters_eq, shape_eq, rqw_eq, prp_eq, sg_cps, sg_len,
  scal_ii, scal_bb, scal_ss, scal_nn, scal_in, scal_ni, scal_sn, scal_ns, scal_bn, scal_nb, scal_is, scal_si, List.map_cons, List.map_nil, List.cons_append, List.nil_append, List.length_cons, List.length_nil, List.replicate, List.getElem?_cons_zero, List.getElem?_cons_succ, Option.some.injEq, exists_eq_left', D.int.injEq, D.str.injEq, D.tup.injEq, D.lst.injEq, D.slst.injEq, D.bl.injEq, D.ins.injEq, Sl.val.injEq, Sl.own.injEq, V.int.injEq, V.str.injEq, V.bl.injEq, List.cons.injEq, List.all_cons, List.all_nil, List.contains, List.elem_cons, List.elem_nil, Nat.reduceBEq, Bool.or_false, Bool.false_or, Bool.and_true, Bool.true_or, Bool.or_true, Bool.and_self,
  exists_and_left, exists_eq_left, exists_eq, and_true, true_and, and_assoc, List.set_cons_zero, List.set_cons_succ, Nat.reduceAdd, Nat.reduceSub, Nat.reduceLeDiff, sizeLine_eq, if_true, if_false, Bool.false_eq_true, reduceIte, Bool.not_true, Bool.not_false, decide_true, decide_false, reduceCtorEq, false_and, and_false, or_false, false_or, exists_false])
/-! ## queries: what they cost, with no program -/
namespace WQ
open PySem PySem.Spec PyProof.Rows L2 WK WM
theorem qz_add {i j : Int} {a : Nat} (hi : i.natAbs < 2 ^ a) (hj : j.natAbs < 2 ^ a) : (i + j).natAbs < 2 ^ (a + 1) := by
  rw [Nat.pow_succ]
  omega
theorem qz_sub {i j : Int} {a : Nat} (hi : i.natAbs < 2 ^ a) (hj : j.natAbs < 2 ^ a) : (i - j).natAbs < 2 ^ (a + 1) := by
  rw [Nat.pow_succ]
  omega
theorem qz_mono {i : Int} {a b : Nat} (hi : i.natAbs < 2 ^ a) (h : a ≤ b) : i.natAbs < 2 ^ b := Nat.lt_of_lt_of_le hi (Nat.pow_le_pow_right (by decide) h)
theorem qz_half {i : Int} {a : Nat} (hi : i.natAbs < 2 ^ a) : (i / 2).natAbs < 2 ^ a := by omega
theorem qz_pow {k : Nat} (h : k ≤ 120) : ((2 : Int) ^ k).natAbs < 2 ^ 121 := by
  rw [abs_pow]
  exact Nat.pow_lt_pow_right (by decide) (by omega)
theorem qz_mul {i j : Int} {a b : Nat} (hi : i.natAbs < 2 ^ a) (hj : j.natAbs < 2 ^ b) : (i * j).natAbs < 2 ^ (a + b) := by
  rw [Int.natAbs_mul, Nat.pow_add]
  exact Nat.mul_lt_mul'' hi hj
/-- a part of what is asked: a stretch of an axis, or a size -/
inductive AP where
  | st (lo hi : Int) | sz (s : Int)
def bkF (b : Nat) : AP → Nat → Int
  | .st lo hi, t => bkn (2 ^ (b - t)) lo (hi - lo + 1)
  | .sz s, t => allB (2 ^ (b - t)) (2 ^ t) (2 ^ b - s) s
def mdF (b : Nat) : AP → Nat → Int
  | .st lo hi, t => mdn (2 ^ (b - t - 1)) lo (hi - lo + 1)
  | .sz s, t => allM (2 ^ (b - t - 1)) (2 ^ t) (2 ^ b - s) s
def ApOk (b : Nat) : AP → Prop
  | .st lo hi => 0 ≤ lo ∧ lo ≤ hi ∧ hi < 2 ^ b
  | .sz s => 1 ≤ s ∧ s ≤ 2 ^ b
theorem bkF_size {b t : Nat} {a : AP} (hb : b ≤ 120) (ht : t ≤ b) (h : ApOk b a) : (bkF b a t).natAbs < 2 ^ 400 := by
  have p1 := qz_pow (k := b - t) (by omega)
  have p2 := qz_pow (k := t) (by omega)
  have p3 := qz_pow (k := b) hb
  have q1 := pow_pos' (b - t)
  cases a with
  | st lo hi =>
    obtain ⟨h0, h1, h2⟩ := h
    show (bkn (2 ^ (b - t)) lo (hi - lo + 1)).natAbs < 2 ^ 400
    unfold bkn
    have a1 := Int.ediv_le_self (2 ^ (b - t)) (show 0 ≤ lo + (hi - lo + 1) by omega)
    have a2 : 0 ≤ (lo + (hi - lo + 1)) / 2 ^ (b - t) := Int.ediv_nonneg (by omega) (by omega)
    have a3 : 0 ≤ (lo + 2 ^ (b - t) - 1) / 2 ^ (b - t) := Int.ediv_nonneg (by omega) (by omega)
    refine qz_mono (a := 121) ?_ (by decide)
    omega
  | sz s =>
    obtain ⟨h0, h1⟩ := h
    show (WM.allB (2 ^ (b - t)) (2 ^ t) (2 ^ b - s) s).natAbs < 2 ^ 400
    unfold WM.allB
    split
    · exact Nat.two_pow_pos _
    · have d0 : 0 ≤ ((2 : Int) ^ b - s) / 2 ^ (b - t) := Int.ediv_nonneg (by omega) (by omega)
      have d1 := Int.ediv_le_self (2 ^ (b - t)) (show 0 ≤ (2 : Int) ^ b - s by omega)
      have p4 : ((2 : Int) ^ b - s).natAbs < 2 ^ 121 := by omega
      have p5 : (((2 : Int) ^ b - s) / 2 ^ (b - t)).natAbs < 2 ^ 121 := by omega
      have p6 := qz_mul p1 p5
      have p7 : (((2 : Int) ^ b - s) / 2 ^ (b - t) + 1).natAbs < 2 ^ 122 := qz_add p5 (by decide)
      have p8 := qz_half (qz_mul p6 p7)
      have p9 : ((2 : Int) ^ t - 1 - ((2 : Int) ^ b - s) / 2 ^ (b - t)).natAbs < 2 ^ 123 := qz_sub (qz_sub p2 (by decide)) (qz_mono p5 (by decide))
      have p10 := qz_mul p9 p4
      have p11 := qz_mul (i := 2) (a := 2) (by decide) (qz_add p8 (qz_mono p10 (b := 121 + 121 + 122) (by decide)))
      exact qz_mono (qz_add (qz_sub p11 (qz_mono (qz_mul p2 p4) (b := 2 + (121 + 121 + 122 + 1)) (by decide))) (qz_mono p2 (b := 2 + (121 + 121 + 122 + 1) + 1) (by decide))) (by decide)
theorem mdF_size {b t : Nat} {a : AP} (hb : b ≤ 120) (ht : t < b) (h : ApOk b a) : (mdF b a t).natAbs < 2 ^ 400 := by
  have p1 := qz_pow (k := b - t - 1) (by omega)
  have p2 := qz_pow (k := t) (by omega)
  have p3 := qz_pow (k := b) hb
  have q1 := pow_pos' (b - t - 1)
  cases a with
  | st lo hi =>
    obtain ⟨h0, h1, h2⟩ := h
    show (mdn (2 ^ (b - t - 1)) lo (hi - lo + 1)).natAbs < 2 ^ 400
    unfold mdn
    have a1 := Int.ediv_le_self (2 ^ (b - t - 1)) (show 0 ≤ lo + (hi - lo + 1) - 1 by omega)
    have a2 : 0 ≤ (lo + (hi - lo + 1) - 1) / 2 ^ (b - t - 1) := Int.ediv_nonneg (by omega) (by omega)
    have a3 : 0 ≤ lo / 2 ^ (b - t - 1) := Int.ediv_nonneg (by omega) (by omega)
    have a4 := Int.ediv_le_self (2 ^ (b - t - 1)) h0
    have a5 : 0 ≤ (lo + (hi - lo + 1) - 1) / (2 * 2 ^ (b - t - 1)) := Int.ediv_nonneg (by omega) (by omega)
    have a6 := Int.ediv_le_self (2 * 2 ^ (b - t - 1)) (show 0 ≤ lo + (hi - lo + 1) - 1 by omega)
    have a7 : 0 ≤ lo / (2 * 2 ^ (b - t - 1)) := Int.ediv_nonneg (by omega) (by omega)
    have a8 := Int.ediv_le_self (2 * 2 ^ (b - t - 1)) h0
    refine qz_mono (a := 123) ?_ (by decide)
    omega
  | sz s =>
    obtain ⟨h0, h1⟩ := h
    show (WM.allM (2 ^ (b - t - 1)) (2 ^ t) (2 ^ b - s) s).natAbs < 2 ^ 400
    unfold WM.allM fewM
    split
    · exact Nat.two_pow_pos _
    · have d0 : 0 ≤ ((2 : Int) ^ b - s + 1) / 2 ^ (b - t - 1) := Int.ediv_nonneg (by omega) (by omega)
      have d1 := Int.ediv_le_self (2 ^ (b - t - 1)) (show 0 ≤ (2 : Int) ^ b - s + 1 by omega)
      have p4 : ((2 : Int) ^ b - s).natAbs < 2 ^ 121 := by omega
      have p5 : (((2 : Int) ^ b - s + 1) / 2 ^ (b - t - 1)).natAbs < 2 ^ 121 := by omega
      have p6 : (((((2 : Int) ^ b - s + 1) / 2 ^ (b - t - 1)) + 1) / 2).natAbs < 2 ^ 122 := qz_half (qz_add p5 (by decide))
      generalize (((2 : Int) ^ b - s + 1) / 2 ^ (b - t - 1) + 1) / 2 = f at *
      have p8 := qz_mul (qz_mul p1 p6) p6
      have p9 : ((2 : Int) ^ t - f).natAbs < 2 ^ 123 := qz_sub (qz_mono p2 (by decide)) p6
      have p10 := qz_mul p9 p4
      have p11 : ((2 : Int) ^ (b - t - 1) * f * f - f).natAbs < 2 ^ (121 + 122 + 122 + 1) := qz_sub p8 (qz_mono p6 (by decide))
      have p12 := qz_mul (i := 2) (a := 2) (by decide) (qz_add p11 (qz_mono p10 (b := 121 + 122 + 122 + 1) (by decide)))
      exact qz_mono (qz_add (qz_sub p12 (qz_mono (qz_mul p2 p4) (b := 2 + (121 + 122 + 122 + 1 + 1)) (by decide))) (qz_mono p2 (b := 2 + (121 + 122 + 122 + 1 + 1) + 1) (by decide))) (by decide)
/-- a query: a weight, and a box or sizes -/
structure Qy where
  w : Int
  what : List (Int × Int) ⊕ List Int
def apk (q : Qy) (k : Nat) : AP := match q.what with
  | .inl bx => .st (bx.getD k (0, 0)).1 (bx.getD k (0, 0)).2
  | .inr ss => .sz (ss.getD k 0)
structure SzOk (sh ss : List Int) : Prop where
  len : ss.length = sh.length
  ok : ∀ k, k < sh.length → 1 ≤ ss.getD k 0 ∧ ss.getD k 0 ≤ 2 ^ (sh.getD k 0).toNat
def WhatOk (sh : List Int) : List (Int × Int) ⊕ List Int → Prop
  | .inl bx => BoxSh sh bx
  | .inr ss => SzOk sh ss
structure QyOk (sh : List Int) (q : Qy) : Prop where
  w0 : 1 ≤ q.w
  w1 : q.w ≤ 1000000000000000000000000000000
  wh : WhatOk sh q.what
def bt (sh : List Int) (k : Nat) : Nat := (sh.getD k 0).toNat
def lvn (lv : List Int) (k : Nat) : Nat := (lv.getD k 0).toNat
theorem QyOk.ap {sh : List Int} {q : Qy} (h : QyOk sh q) {k : Nat} (hk : k < sh.length) : ApOk (bt sh k) (apk q k) := by
  obtain ⟨w, what⟩ := q
  have hw := h.wh
  cases what with
  | inl bx => exact ⟨hw.lo k hk, hw.le k hk, hw.hi k hk⟩
  | inr ss => exact hw.ok k hk
/-- a level: a number of told bits for each axis -/
structure LvOk (sh lv : List Int) : Prop where
  len : lv.length = sh.length
  lo : ∀ k, k < sh.length → 0 ≤ lv.getD k 0
  hi : ∀ k, k < sh.length → lv.getD k 0 ≤ sh.getD k 0
def fil (sh : List Int) (q : Qy) (lv : List Int) : Int := prodI ((List.range sh.length).map fun k => bkF (bt sh k) (apk q k) (lvn lv k))
def oth (sh : List Int) (q : Qy) (lv : List Int) (a : Nat) : Int := prodI (((List.range sh.length).filter fun k => decide (k ≠ a)).map fun k => bkF (bt sh k) (apk q k) (lvn lv k))
def bump (lv : List Int) (a : Nat) : List Int := lv.set a (lv.getD a 0 + 1)
def gq (m : Bool) (sh : List Int) (lv : List Int) (a : Nat) (q : Qy) : Int := if m = true then q.w * mdF (bt sh a) (apk q a) (lvn lv a) * oth sh q lv a else q.w * (2 * fil sh q lv - fil sh q (bump lv a))
def gain (m : Bool) (sh : List Int) (qs : List Qy) (lv : List Int) (a : Nat) : Int := (qs.map (gq m sh lv a)).sum
def nonC (m : Bool) (sh : List Int) (qs : List Qy) : Int := (qs.map fun q => q.w * fil sh q (if m = true then sh else List.replicate sh.length 0)).sum
def costL (m : Bool) (sh : List Int) (qs : List Qy) (l : List Nat) : Int := nonC m sh qs - ((List.range l.length).map fun j => gain m sh qs (cnts (l.take j) sh.length) (l.getD j 0 - 97)).sum
theorem prodI_size {k : Nat} : ∀ xs : List Int, (∀ x ∈ xs, x.natAbs < 2 ^ k) → (prodI xs).natAbs < 2 ^ (k * xs.length + 1)
  | [], _ => by show 1 < 2 ^ (0 + 1); decide
  | x :: xs, h => by
    have h1 := prodI_size xs fun y hy => h y (List.mem_cons_of_mem _ hy)
    have h2 := qz_mul (h x List.mem_cons_self) h1
    rw [prodI, List.length_cons, Nat.mul_succ, show k * xs.length + k + 1 = k + (k * xs.length + 1) by omega]
    exact h2
theorem LvOk.at {sh lv : List Int} (h : LvOk sh lv) {k : Nat} (hk : k < sh.length) : (lvn lv k : Int) = lv.getD k 0 ∧ lvn lv k ≤ bt sh k := by
  have h0 := h.lo k hk
  have h1 := h.hi k hk
  unfold lvn bt
  omega
theorem fil_fac {sh lv : List Int} {q : Qy} (hs : ShOk sh) (hl : LvOk sh lv) (hq : QyOk sh q) (p : Nat → Bool) : ∀ x ∈ ((List.range sh.length).filter p).map (fun k => bkF (bt sh k) (apk q k) (lvn lv k)), x.natAbs < 2 ^ 400 := fun x hx => by
  obtain ⟨k, hk, rfl⟩ := List.mem_map.mp hx
  have hk := List.mem_range.mp (List.mem_filter.mp hk).1
  obtain ⟨b0, b1⟩ := hs.bt (sh.getD k 0) (by rw [List.getD_eq_getElem?_getD, List.getElem?_eq_getElem hk]; exact List.getElem_mem hk)
  exact bkF_size (by unfold bt; omega) (hl.at hk).2 (hq.ap hk)
theorem fil_size {sh lv : List Int} {q : Qy} (hs : ShOk sh) (hl : LvOk sh lv) (hq : QyOk sh q) : (fil sh q lv).natAbs < 2 ^ 1601 := by
  have h := prodI_size _ (fil_fac hs hl hq fun _ => true)
  have e : (List.range sh.length).filter (fun _ => true) = List.range sh.length := by rw [List.filter_eq_self]; exact fun _ _ => rfl
  rw [e] at h
  have n4 := hs.n4
  refine qz_mono h ?_
  rw [List.length_map, List.length_range]
  omega
theorem oth_size {sh lv : List Int} {q : Qy} (hs : ShOk sh) (hl : LvOk sh lv) (hq : QyOk sh q) (a : Nat) : (oth sh q lv a).natAbs < 2 ^ 1601 := by
  have h := prodI_size _ (fil_fac hs hl hq fun k => decide (k ≠ a))
  have n4 := hs.n4
  have hle := List.length_filter_le (fun k => decide (k ≠ a)) (List.range sh.length)
  rw [List.length_range] at hle
  refine qz_mono h ?_
  rw [List.length_map]
  omega
theorem bump_ok {sh lv : List Int} {a : Nat} (hl : LvOk sh lv) (ha : a < sh.length) (h : lv.getD a 0 < sh.getD a 0) : LvOk sh (bump lv a) := by
  have g : ∀ k, (bump lv a).getD k 0 = if k = a then lv.getD a 0 + 1 else lv.getD k 0 := fun k => by
    unfold bump
    rw [List.getD_eq_getElem?_getD]
    by_cases e : k = a
    · subst e
      rw [List.getElem?_set_self (by rw [hl.len]; exact ha), if_pos rfl]
      rfl
    · rw [List.getElem?_set_ne (Ne.symm e), if_neg e, List.getD_eq_getElem?_getD]
  refine ⟨by unfold bump; rw [List.length_set]; exact hl.len, fun k hk => ?_, fun k hk => ?_⟩
  · rw [g]
    have h0 := hl.lo k hk
    have h1 := hl.lo a ha
    split <;> omega
  · rw [g]
    have h0 := hl.hi k hk
    split
    · rename_i e
      subst e
      omega
    · exact h0
theorem w_size {sh : List Int} {q : Qy} (hq : QyOk sh q) : q.w.natAbs < 2 ^ 100 := by
  have h0 := hq.w0
  have h1 := hq.w1
  have : (1000000000000000000000000000000 : Nat) < 2 ^ 100 := by decide
  omega
theorem cnts_bump {l : List Nat} {n c : Nat} (h1 : 97 ≤ c) (h2 : c < 97 + n) : cnts (l ++ [c]) n = bump (cnts l n) (c - 97) := by
  rw [cnts_snoc h1 h2]
  unfold bump
  rw [List.getD_eq_getElem?_getD, cnts_at (by omega), show 97 + (c - 97) = c by omega]
  rfl
end WQ

/-! ## ranges and prefixes of a box by steps, with no program -/
namespace WQ
open PySem PySem.Spec PyProof.Rows L2 WK WM
def prf (sh : List Int) (q : Qy) (lv : List Int) (a k : Nat) : Int := if k = a then mdF (bt sh k) (apk q k) (lvn lv k) else bkF (bt sh k) (apk q k) (lvn lv k)
/-- neighbours that part at a step -/
def prs (sh : List Int) (q : Qy) (lv : List Int) (a : Nat) : Int := prodI ((List.range sh.length).map (prf sh q lv a))
theorem prodI_app : ∀ xs ys : List Int, prodI (xs ++ ys) = prodI xs * prodI ys
  | [], ys => by rw [List.nil_append, prodI, Int.one_mul]
  | x :: xs, ys => by rw [List.cons_append, prodI, prodI, prodI_app xs ys, Int.mul_assoc]
theorem prodI_pull (f g : Nat → Int) (a : Nat) : ∀ ks : List Nat, ks.Nodup → a ∈ ks → (∀ k ∈ ks, k ≠ a → f k = g k) → prodI (ks.map f) = f a * prodI ((ks.filter fun k => decide (k ≠ a)).map g)
  | [], _, h, _ => by cases h
  | k :: ks, hn, h, hg => by
    obtain ⟨h1, h2⟩ := List.nodup_cons.mp hn
    rw [List.map_cons, prodI]
    by_cases e : k = a
    · subst e
      rw [List.filter_cons, if_neg (by simp)]
      have e2 : ks.filter (fun j => decide (j ≠ k)) = ks := by
        rw [List.filter_eq_self]
        intro j hj
        exact decide_eq_true fun e => h1 (e ▸ hj)
      rw [e2]
      congr 2
      exact List.map_congr_left fun j hj => hg j (List.mem_cons_of_mem _ hj) fun e => h1 (e ▸ hj)
    · have hm : a ∈ ks := by
        rcases List.mem_cons.mp h with x | x
        · exact absurd x.symm e
        · exact x
      rw [prodI_pull f g a ks h2 hm fun j hj hne => hg j (List.mem_cons_of_mem _ hj) hne, List.filter_cons, if_pos (decide_eq_true e), List.map_cons, prodI, hg k List.mem_cons_self e, Int.mul_left_comm]
theorem prs_eq {sh lv : List Int} {q : Qy} {a : Nat} (ha : a < sh.length) : prs sh q lv a = mdF (bt sh a) (apk q a) (lvn lv a) * oth sh q lv a := by
  unfold prs oth
  rw [prodI_pull (prf sh q lv a) (fun k => bkF (bt sh k) (apk q k) (lvn lv k)) a _ List.nodup_range (List.mem_range.mpr ha) fun k _ hk => if_neg hk]
  congr 1
  exact if_pos rfl
/-- the number of ranges of a box -/
def nR (sh : List Int) (bx : List (Int × Int)) (l : List Nat) : Int := prodI (bx.map fun p => p.2 - p.1 + 1) - ((List.range l.length).map fun j => prs sh ⟨1, .inl bx⟩ (cnts (l.take j) sh.length) (l.getD j 0 - 97)).sum
theorem bkF_full {b : Nat} {lo hi : Int} (h : ApOk b (.st lo hi)) : bkF b (.st lo hi) b = hi - lo + 1 := by
  obtain ⟨h0, h1, h2⟩ := h
  show bkn (2 ^ (b - b)) lo (hi - lo + 1) = _
  unfold bkn
  rw [Nat.sub_self, Int.pow_zero, Int.ediv_one, Int.ediv_one]
  omega
theorem fil_full {sh : List Int} {bx : List (Int × Int)} (hb : BoxSh sh bx) : fil sh ⟨1, .inl bx⟩ sh = prodI (bx.map fun p => p.2 - p.1 + 1) := by
  unfold fil
  have e : bx.map (fun p => p.2 - p.1 + 1) = (List.range sh.length).map fun k => (bx.getD k (0, 0)).2 - (bx.getD k (0, 0)).1 + 1 := by
    rw [← hb.len]
    refine List.ext_getElem? fun i => ?_
    rw [List.getElem?_map, List.getElem?_map]
    by_cases hi : i < bx.length
    · rw [List.getElem?_range hi, List.getElem?_eq_getElem hi]
      show some _ = some ((bx.getD i (0, 0)).2 - (bx.getD i (0, 0)).1 + 1)
      rw [List.getD_eq_getElem?_getD, List.getElem?_eq_getElem hi]
      rfl
    · rw [List.getElem?_eq_none (by omega), List.getElem?_eq_none (by rw [List.length_range]; omega)]
      rfl
  rw [e]
  congr 1
  refine List.map_congr_left fun k hk => ?_
  have hk := List.mem_range.mp hk
  exact bkF_full ⟨hb.lo k hk, hb.le k hk, hb.hi k hk⟩
theorem cost_nR {sh : List Int} {bx : List (Int × Int)} {l : List Nat} (hb : BoxSh sh bx) (hr : ∀ c ∈ l, 97 ≤ c ∧ c < 97 + sh.length) : costL true sh [⟨1, .inl bx⟩] l = nR sh bx l := by
  unfold costL nR nonC
  have e1 : (([⟨1, .inl bx⟩] : List Qy).map fun q => q.w * fil sh q (if true = true then sh else List.replicate sh.length 0)).sum = prodI (bx.map fun p => p.2 - p.1 + 1) := by
    show 1 * fil sh ⟨1, .inl bx⟩ sh + 0 = _
    rw [fil_full hb]
    omega
  rw [e1]
  congr 2
  refine List.map_congr_left fun j hj => ?_
  have hj := List.mem_range.mp hj
  have hx := hr (l.getD j 0) (by rw [List.getD_eq_getElem?_getD, List.getElem?_eq_getElem hj]; exact List.getElem_mem hj)
  rw [prs_eq (by omega)]
  show 1 * mdF _ _ _ * oth _ _ _ _ + 0 = _
  rw [Int.one_mul, Int.add_zero]
/-- the number of prefixes of a box -/
def nP (sh : List Int) (bx : List (Int × Int)) (l : List Nat) : Int := fil sh ⟨1, .inl bx⟩ (cnts [] sh.length) + ((List.range l.length).map fun j => fil sh ⟨1, .inl bx⟩ (cnts (l.take (j + 1)) sh.length) - 2 * fil sh ⟨1, .inl bx⟩ (cnts (l.take j) sh.length)).sum
theorem sum_neg {α : Type} (f : α → Int) : ∀ ks : List α, (ks.map fun k => - f k).sum = - (ks.map f).sum
  | [] => rfl
  | k :: ks => by rw [List.map_cons, List.sum_cons, List.map_cons, List.sum_cons, sum_neg f ks]; omega
theorem cost_nP {sh : List Int} {bx : List (Int × Int)} {l : List Nat} (hr : ∀ c ∈ l, 97 ≤ c ∧ c < 97 + sh.length) : costL false sh [⟨1, .inl bx⟩] l = nP sh bx l := by
  unfold costL nP nonC
  have e1 : (([⟨1, .inl bx⟩] : List Qy).map fun q => q.w * fil sh q (if false = true then sh else List.replicate sh.length 0)).sum = fil sh ⟨1, .inl bx⟩ (cnts [] sh.length) := by
    show 1 * fil sh ⟨1, .inl bx⟩ (List.replicate sh.length 0) + 0 = _
    rw [cnts_nil]
    omega
  rw [e1, Int.sub_eq_add_neg, ← sum_neg]
  congr 2
  refine List.map_congr_left fun j hj => ?_
  have hj := List.mem_range.mp hj
  have hx := hr (l.getD j 0) (by rw [List.getD_eq_getElem?_getD, List.getElem?_eq_getElem hj]; exact List.getElem_mem hj)
  have et : l.take (j + 1) = l.take j ++ [l.getD j 0] := by
    rw [List.take_succ_eq_append_getElem hj, List.getD_eq_getElem?_getD, List.getElem?_eq_getElem hj]
    rfl
  rw [et, cnts_bump hx.1 hx.2]
  show - (1 * (2 * fil _ _ _ - fil _ _ _) + 0) = _
  omega
/-! ### several lists of queries -/
theorem gain_app (m : Bool) (sh lv : List Int) (qs rs : List Qy) (a : Nat) : gain m sh (qs ++ rs) lv a = gain m sh qs lv a + gain m sh rs lv a := by
  unfold gain
  rw [List.map_append, List.sum_append]
theorem sum_add2 {α : Type} (f g : α → Int) : ∀ ks : List α, (ks.map fun k => f k + g k).sum = (ks.map f).sum + (ks.map g).sum
  | [] => rfl
  | k :: ks => by rw [List.map_cons, List.sum_cons, List.map_cons, List.sum_cons, List.map_cons, List.sum_cons, sum_add2 f g ks]; omega
theorem sum_mul {α : Type} (c : Int) (f : α → Int) : ∀ ks : List α, (ks.map fun k => c * f k).sum = c * (ks.map f).sum
  | [] => by show 0 = c * 0; omega
  | k :: ks => by rw [List.map_cons, List.sum_cons, List.map_cons, List.sum_cons, sum_mul c f ks, Int.mul_add]
theorem cost_app (m : Bool) (sh : List Int) (qs rs : List Qy) (l : List Nat) : costL m sh (qs ++ rs) l = costL m sh qs l + costL m sh rs l := by
  unfold costL nonC
  rw [List.map_append, List.sum_append]
  have e : ((List.range l.length).map fun j => gain m sh (qs ++ rs) (cnts (l.take j) sh.length) (l.getD j 0 - 97)).sum = ((List.range l.length).map fun j => gain m sh qs (cnts (l.take j) sh.length) (l.getD j 0 - 97)).sum + ((List.range l.length).map fun j => gain m sh rs (cnts (l.take j) sh.length) (l.getD j 0 - 97)).sum := by
    rw [← sum_add2]
    exact congrArg List.sum (List.map_congr_left fun j _ => gain_app m sh _ qs rs _)
  rw [e]
  omega
theorem cost_nil (m : Bool) (sh : List Int) (l : List Nat) : costL m sh [] l = 0 := by
  unfold costL nonC
  have e : ((List.range l.length).map fun j => gain m sh [] (cnts (l.take j) sh.length) (l.getD j 0 - 97)).sum = 0 := by
    generalize List.range l.length = ks
    induction ks with
    | nil => rfl
    | cons k ks ih =>
      rw [List.map_cons, List.sum_cons, ih]
      rfl
  rw [e]
  rfl
theorem cost_each (m : Bool) (sh : List Int) (l : List Nat) : ∀ qs : List Qy, costL m sh qs l = (qs.map fun q => costL m sh [q] l).sum
  | [] => cost_nil m sh l
  | q :: qs => by rw [List.map_cons, List.sum_cons, ← cost_each m sh l qs, ← cost_app]; rfl
def scl (c : Int) (q : Qy) : Qy := ⟨q.w * c, q.what⟩
theorem gq_scl (m : Bool) (sh lv : List Int) (a : Nat) (c : Int) (q : Qy) : gq m sh lv a (scl c q) = c * gq m sh lv a q := by
  have e1 : ∀ k, apk (scl c q) k = apk q k := fun k => rfl
  have e2 : fil sh (scl c q) lv = fil sh q lv := rfl
  have e3 : oth sh (scl c q) lv a = oth sh q lv a := rfl
  have e4 : fil sh (scl c q) (bump lv a) = fil sh q (bump lv a) := rfl
  unfold gq
  rw [e1, e2, e3, e4]
  show (if m = true then q.w * c * _ * _ else q.w * c * _) = _
  split
  · rw [Int.mul_comm q.w c, Int.mul_assoc, Int.mul_assoc, Int.mul_assoc]
  · rw [Int.mul_comm q.w c, Int.mul_assoc]
theorem cost_scl (m : Bool) (sh : List Int) (c : Int) (qs : List Qy) (l : List Nat) : costL m sh (qs.map (scl c)) l = c * costL m sh qs l := by
  unfold costL nonC gain
  rw [List.map_map]
  have e1 : (qs.map ((fun q => q.w * fil sh q (if m = true then sh else List.replicate sh.length 0)) ∘ scl c)).sum = c * (qs.map fun q => q.w * fil sh q (if m = true then sh else List.replicate sh.length 0)).sum := by
    rw [← sum_mul]
    refine congrArg List.sum (List.map_congr_left fun q _ => ?_)
    show q.w * c * fil sh q _ = _
    rw [Int.mul_comm q.w c, Int.mul_assoc]
  have e2 : ((List.range l.length).map fun j => ((qs.map (scl c)).map (gq m sh (cnts (l.take j) sh.length) (l.getD j 0 - 97))).sum).sum = c * ((List.range l.length).map fun j => (qs.map (gq m sh (cnts (l.take j) sh.length) (l.getD j 0 - 97))).sum).sum := by
    rw [← sum_mul]
    refine congrArg List.sum (List.map_congr_left fun j _ => ?_)
    rw [List.map_map, ← sum_mul]
    exact congrArg List.sum (List.map_congr_left fun q _ => gq_scl m sh _ _ c q)
  rw [e1, e2, Int.mul_sub]
end WQ

/-! ## small numbers (a law with MExch has this already) -/
namespace WQ
open PySem PySem.Spec PyProof.Rows L2 WK WM
theorem qz_sml {i : Int} {k : Nat} (h0 : 0 ≤ i) (h : i ≤ 2 ^ k) : i.natAbs < 2 ^ (k + 1) := by
  have e : ((2 : Int) ^ k) = ((2 ^ k : Nat) : Int) := by rw [Int.natCast_pow]; rfl
  rw [e] at h
  have := Nat.two_pow_pos k
  rw [Nat.pow_succ]
  omega
end WQ

/-! ## the counts by steps are counts of keys: nodes in a box, neighbours, ranges -/
namespace WQ
open PySem PySem.Spec PyProof.Rows L2 WK WM
theorem sumI_pairs (g : Nat → Int) : ∀ m, sumI g (2 * m) = sumI (fun v => g (2 * v) + g (2 * v + 1)) m
  | 0 => rfl
  | m + 1 => by
    show sumI g (2 * m + 1 + 1) = sumI _ m + (g (2 * m) + g (2 * m + 1))
    rw [← sumI_pairs g m]
    show sumI g (2 * m) + g (2 * m) + g (2 * m + 1) = _
    omega
theorem sumI_plus (f : Nat → Int) (m n : Nat) : sumI f (m + n) = sumI f m + sumI (fun i => f (m + i)) n := by
  rw [sumI_shift]
  omega
theorem cnt_take {l : List Nat} {j k : Nat} (h : j < l.length) : (l.take (j + 1)).count (97 + k) = (l.take j).count (97 + k) + if l.getD j 0 = 97 + k then 1 else 0 := by
  have e : l.getD j 0 = l[j] := by rw [List.getD_eq_getElem?_getD, List.getElem?_eq_getElem h]; rfl
  rw [← List.take_append_getElem h, List.count_append, e, List.count_singleton]
  by_cases z : l[j] = 97 + k
  · rw [if_pos z, if_pos (beq_iff_eq.mpr z)]
  · rw [if_neg z, if_neg fun q => z (beq_iff_eq.mp q)]
/-- a product over the axes, summed over the nodes of a level -/
theorem F_sum {l : List Nat} {n : Nat} (hl : ∀ c ∈ l, 97 ≤ c ∧ c < 97 + n) : ∀ (j : Nat) (f : Nat → Int → Int), j ≤ l.length →
    sumI (fun v => prodI ((List.range n).map fun k => f k (pre l k j (v : Int)))) (2 ^ j) = prodI ((List.range n).map fun k => sumI (fun u => f k (u : Int)) (2 ^ (l.take j).count (97 + k)))
  | 0, f, _ => by
    show (0 : Int) + prodI _ = _
    rw [Int.zero_add]
    congr 1
    refine List.map_congr_left fun k _ => ?_
    show f k 0 = sumI (fun u => f k (u : Int)) (2 ^ 0)
    show f k 0 = 0 + f k ((0 : Nat) : Int)
    rw [Int.zero_add]
    rfl
  | j + 1, f, h => by
    have hj : j < l.length := h
    have ej : l.getD j 0 = l[j] := by rw [List.getD_eq_getElem?_getD, List.getElem?_eq_getElem hj]; rfl
    obtain ⟨r1, r2⟩ := hl l[j] (List.getElem_mem hj)
    have ha : l.getD j 0 - 97 < n := by omega
    have e97 : ∀ k, l.getD j 0 = 97 + k ↔ k = l.getD j 0 - 97 := fun k => by omega
    rw [show (2 : Nat) ^ (j + 1) = 2 * 2 ^ j by rw [Nat.pow_succ, Nat.mul_comm], sumI_pairs]
    have ih := F_sum hl j (fun k u => if k = l.getD j 0 - 97 then f k (u * 2 + 0) + f k (u * 2 + 1) else f k u) (by omega)
    refine Eq.trans (sumI_congr (g := fun v => prodI ((List.range n).map fun k => (fun k u => if k = l.getD j 0 - 97 then f k (u * 2 + 0) + f k (u * 2 + 1) else f k u) k (pre l k j (v : Int)))) fun v _ => ?_) (Eq.trans ih ?_)
    · have c0 : ((2 * v : Nat) : Int) = 2 * (v : Int) + 0 := by omega
      have c1 : ((2 * v + 1 : Nat) : Int) = 2 * (v : Int) + 1 := by omega
      show prodI ((List.range n).map fun k => f k (pre l k (j + 1) ((2 * v : Nat) : Int))) + prodI ((List.range n).map fun k => f k (pre l k (j + 1) ((2 * v + 1 : Nat) : Int))) = _
      rw [c0, c1]
      refine (prodI_split (List.range n) _ _ _ (l.getD j 0 - 97) (List.mem_range.mpr ha) List.nodup_range (fun k _ hk => ?_) ?_).symm
      · have hk' : ¬ l.getD j 0 = 97 + k := fun z => hk ((e97 k).mp z)
        rw [pre_child (by decide) (by decide), pre_child (by decide) (by decide), if_neg hk', if_neg hk']
        exact ⟨if_neg hk, if_neg hk⟩
      · have hk' : l.getD j 0 = 97 + (l.getD j 0 - 97) := (e97 _).mpr rfl
        rw [pre_child (by decide) (by decide), pre_child (by decide) (by decide), if_pos hk', if_pos hk']
        exact if_pos rfl
    · congr 1
      refine List.map_congr_left fun k _ => ?_
      show sumI (fun u => if k = l.getD j 0 - 97 then f k ((u : Int) * 2 + 0) + f k ((u : Int) * 2 + 1) else f k u) _ = _
      rw [cnt_take hj]
      by_cases z : k = l.getD j 0 - 97
      · rw [if_pos ((e97 k).mpr z), Nat.pow_succ, Nat.mul_comm _ 2, sumI_pairs]
        refine sumI_congr fun u _ => ?_
        rw [if_pos z, show ((2 * u : Nat) : Int) = (u : Int) * 2 + 0 by omega, show ((2 * u + 1 : Nat) : Int) = (u : Int) * 2 + 1 by omega]
      · rw [if_neg fun q => z ((e97 k).mp q), Nat.add_zero]
        refine sumI_congr fun u _ => ?_
        rw [if_neg z]
theorem bk_each {b t : Nat} {lo hi : Int} (h0 : 0 ≤ lo) (h1 : lo ≤ hi) (h2 : hi < 2 ^ b) (ht : t ≤ b) : bkF b (.st lo hi) t = sumI (fun u => if lo ≤ (u : Int) * 2 ^ (b - t) ∧ ((u : Int) + 1) * 2 ^ (b - t) - 1 ≤ hi then 1 else 0) (2 ^ t) := by
  obtain ⟨x, rfl⟩ : ∃ x : Nat, lo = x := ⟨lo.toNat, by omega⟩
  obtain ⟨s, hs⟩ : ∃ s : Nat, hi - x + 1 = s := ⟨(hi - x + 1).toNat, by omega⟩
  have e1 : ((2 ^ t * 2 ^ (b - t) : Nat) : Int) = 2 ^ b := by
    rw [← Nat.pow_add, show t + (b - t) = b by omega, Int.natCast_pow]
    rfl
  have eB : ((2 ^ (b - t) : Nat) : Int) = 2 ^ (b - t) := by rw [Int.natCast_pow]; rfl
  have h := blk_count (B := 2 ^ (b - t)) (m := 2 ^ t) (s := s) (x := x) (most := 2 ^ b - (s : Int)) (Nat.two_pow_pos _) (by rw [e1]) (by omega)
  show bkn (2 ^ (b - t)) x (hi - x + 1) = _
  rw [hs, ← eB, ← h, eB]
  refine sumI_congr fun p _ => ifc ?_
  rw [Int.add_mul, Int.one_mul]
  omega
theorem md_each {b t : Nat} {lo hi : Int} (h0 : 0 ≤ lo) (h1 : lo ≤ hi) (h2 : hi < 2 ^ b) (ht : t < b) : mdF b (.st lo hi) t = sumI (fun u => if lo ≤ (u : Int) * (2 * 2 ^ (b - t - 1)) + 2 ^ (b - t - 1) - 1 ∧ (u : Int) * (2 * 2 ^ (b - t - 1)) + 2 ^ (b - t - 1) ≤ hi then 1 else 0) (2 ^ t) := by
  obtain ⟨x, rfl⟩ : ∃ x : Nat, lo = x := ⟨lo.toNat, by omega⟩
  obtain ⟨s, hs⟩ : ∃ s : Nat, hi - x + 1 = s := ⟨(hi - x + 1).toNat, by omega⟩
  have e1 : ((2 ^ t * (2 * 2 ^ (b - t - 1)) : Nat) : Int) = 2 ^ b := by
    rw [show (2 : Nat) * 2 ^ (b - t - 1) = 2 ^ (b - t) by rw [Nat.mul_comm, ← Nat.pow_succ]; congr 1; omega, ← Nat.pow_add, show t + (b - t) = b by omega, Int.natCast_pow]
    rfl
  have eB : ((2 ^ (b - t - 1) : Nat) : Int) = 2 ^ (b - t - 1) := by rw [Int.natCast_pow]; rfl
  have h := mid_count (h := 2 ^ (b - t - 1)) (m := 2 ^ t) (s := s) (x := x) (most := 2 ^ b - (s : Int)) (Nat.two_pow_pos _) (by rw [e1]) (by omega) (by omega)
  show mdn (2 ^ (b - t - 1)) x (hi - x + 1) = _
  rw [hs, ← eB, ← h]
  refine sumI_congr fun p _ => ifc ?_
  omega
def nodeIn (l : List Nat) (bx : List (Int × Int)) (j : Nat) (v : Int) : Bool := (List.range bx.length).all fun k => decide ((bx.getD k (0, 0)).1 ≤ nlo l k j v) && decide (nhi l k j v ≤ (bx.getD k (0, 0)).2)
def midIn (l : List Nat) (bx : List (Int × Int)) (j : Nat) (v : Int) : Bool := (List.range bx.length).all fun k => if k = l.getD j 0 - 97 then decide ((bx.getD k (0, 0)).1 ≤ nhi l k (j + 1) (2 * v + 0)) && decide (nlo l k (j + 1) (2 * v + 1) ≤ (bx.getD k (0, 0)).2) else decide ((bx.getD k (0, 0)).1 ≤ nlo l k j v) && decide (nhi l k j v ≤ (bx.getD k (0, 0)).2)
theorem bt_cnt {l : List Nat} {sh : List Int} (hl : cnts l sh.length = sh) {k : Nat} (hk : k < sh.length) : bt sh k = l.count (97 + k) := by
  have := cnts_get hl hk
  unfold bt
  omega
theorem lvn_cnt {t : List Nat} {n k : Nat} (h : k < n) : lvn (cnts t n) k = t.count (97 + k) := by
  unfold lvn
  rw [List.getD_eq_getElem?_getD, cnts_at h]
  rfl
theorem fil_count {sh : List Int} {bx : List (Int × Int)} {l : List Nat} {j : Nat} {w : Int} (hW : WK.WOk l sh.length) (hl : cnts l sh.length = sh) (hb : BoxSh sh bx) (hj : j ≤ l.length) :
    fil sh ⟨w, .inl bx⟩ (cnts (l.take j) sh.length) = sumI (fun v => if nodeIn l bx j (v : Int) = true then 1 else 0) (2 ^ j) := by
  have h := F_sum (l := l) (n := sh.length) hW.rng j (fun k u => if (bx.getD k (0, 0)).1 ≤ u * 2 ^ rm l k j ∧ (u + 1) * 2 ^ rm l k j - 1 ≤ (bx.getD k (0, 0)).2 then 1 else 0) hj
  refine Eq.trans (Eq.trans ?_ h.symm) ?_
  · unfold fil
    congr 1
    refine List.map_congr_left fun k hk => ?_
    have hk' := List.mem_range.mp hk
    have e1 := bt_cnt hl hk'
    have e2 := lvn_cnt (t := l.take j) hk'
    have e3 := List.Sublist.count_le (97 + k) (List.take_sublist j l)
    have hh : (bx.getD k (0, 0)).2 < 2 ^ bt sh k := hb.hi k hk'
    show bkF (bt sh k) (.st _ _) _ = _
    rw [bk_each (hb.lo k hk') (hb.le k hk') hh (by rw [e1, e2]; exact e3), e1, e2]
    rfl
  · refine sumI_congr fun v _ => ?_
    unfold nodeIn
    rw [hb.len]
    refine prodI_bool _ _ _ fun k _ => ?_
    show (if (bx.getD k (0, 0)).1 ≤ pre l k j (v : Int) * 2 ^ rm l k j ∧ (pre l k j (v : Int) + 1) * 2 ^ rm l k j - 1 ≤ (bx.getD k (0, 0)).2 then (1 : Int) else 0) = _
    refine ifc ?_
    rw [Bool.and_eq_true, decide_eq_true_eq, decide_eq_true_eq]
    exact Iff.rfl
theorem prs_count {sh : List Int} {bx : List (Int × Int)} {l : List Nat} {j : Nat} {w : Int} (hW : WK.WOk l sh.length) (hl : cnts l sh.length = sh) (hb : BoxSh sh bx) (hj : j < l.length) :
    prs sh ⟨w, .inl bx⟩ (cnts (l.take j) sh.length) (l.getD j 0 - 97) = sumI (fun v => if midIn l bx j (v : Int) = true then 1 else 0) (2 ^ j) := by
  have ej : l.getD j 0 = l[j] := by rw [List.getD_eq_getElem?_getD, List.getElem?_eq_getElem hj]; rfl
  obtain ⟨r1, r2⟩ := hW.rng l[j] (List.getElem_mem hj)
  have h := F_sum (l := l) (n := sh.length) hW.rng j (fun k u => if k = l.getD j 0 - 97 then (if (bx.getD k (0, 0)).1 ≤ u * (2 * 2 ^ rm l k (j + 1)) + 2 ^ rm l k (j + 1) - 1 ∧ u * (2 * 2 ^ rm l k (j + 1)) + 2 ^ rm l k (j + 1) ≤ (bx.getD k (0, 0)).2 then 1 else 0) else (if (bx.getD k (0, 0)).1 ≤ u * 2 ^ rm l k j ∧ (u + 1) * 2 ^ rm l k j - 1 ≤ (bx.getD k (0, 0)).2 then 1 else 0)) (by omega)
  refine Eq.trans (Eq.trans ?_ h.symm) ?_
  · unfold prs
    congr 1
    refine List.map_congr_left fun k hk => ?_
    have hk' := List.mem_range.mp hk
    have e1 := bt_cnt hl hk'
    have e2 := lvn_cnt (t := l.take j) hk'
    have e3 := List.Sublist.count_le (97 + k) (List.take_sublist j l)
    have hh : (bx.getD k (0, 0)).2 < 2 ^ bt sh k := hb.hi k hk'
    unfold prf
    by_cases z : k = l.getD j 0 - 97
    · rw [if_pos z]
      have e4 := List.Sublist.count_le (97 + k) (List.take_sublist (j + 1) l)
      have e5 := cnt_take (k := k) hj
      rw [if_pos (show l.getD j 0 = 97 + k by omega)] at e5
      show mdF (bt sh k) (.st _ _) _ = _
      rw [md_each (hb.lo k hk') (hb.le k hk') hh (by rw [e1, e2]; omega), e1, e2]
      have e6 : l.count (97 + k) - (l.take j).count (97 + k) - 1 = rm l k (j + 1) := by unfold rm; omega
      rw [e6]
      refine sumI_congr fun u _ => ?_
      rw [if_pos z]
    · rw [if_neg z]
      show bkF (bt sh k) (.st _ _) _ = _
      rw [bk_each (hb.lo k hk') (hb.le k hk') hh (by rw [e1, e2]; exact e3), e1, e2]
      refine sumI_congr fun u _ => ?_
      rw [if_neg z]
      rfl
  · refine sumI_congr fun v _ => ?_
    unfold midIn
    rw [hb.len]
    refine prodI_bool _ _ _ fun k _ => ?_
    show (if k = l.getD j 0 - 97 then (if _ then (1 : Int) else 0) else (if _ then (1 : Int) else 0)) = _
    by_cases z : k = l.getD j 0 - 97
    · obtain ⟨a, b, c, d⟩ := nlo_axis (v := (v : Int)) (b := 0) hj (by decide) (by decide) (show l.getD j 0 = 97 + k by omega)
      obtain ⟨_, _, c1, d1⟩ := nlo_axis (v := (v : Int)) (b := 1) hj (by decide) (by decide) (show l.getD j 0 = 97 + k by omega)
      simp only [if_pos z]
      refine ifc ?_
      rw [Bool.and_eq_true, decide_eq_true_eq, decide_eq_true_eq, d, c1]
      have x1 : (2 * pre l k j (v : Int) + 0 + 1) * 2 ^ rm l k (j + 1) = pre l k j (v : Int) * (2 * 2 ^ rm l k (j + 1)) + 2 ^ rm l k (j + 1) := by
        rw [Int.add_zero, Int.add_mul, Int.one_mul, Int.mul_comm 2 (pre l k j _), Int.mul_assoc]
      have x2 : (2 * pre l k j (v : Int) + 1) * 2 ^ rm l k (j + 1) = pre l k j (v : Int) * (2 * 2 ^ rm l k (j + 1)) + 2 ^ rm l k (j + 1) := by
        rw [Int.add_mul, Int.one_mul, Int.mul_comm 2 (pre l k j _), Int.mul_assoc]
      rw [x1, x2]
    · simp only [if_neg z]
      refine ifc ?_
      rw [Bool.and_eq_true, decide_eq_true_eq, decide_eq_true_eq]
      rfl
/-! ### the first and the last key of a node -/
theorem pre_ends {l : List Nat} {k : Nat} : ∀ (d j : Nat) (v : Int), j + d = l.length → pre l k l.length (v * 2 ^ d) = nlo l k j v ∧ pre l k l.length ((v + 1) * 2 ^ d - 1) = nhi l k j v
  | 0, j, v, h => by
    have e : j = l.length := by omega
    subst e
    have e2 : nlo l k l.length v = pre l k l.length v := by
      unfold nlo
      rw [rm_end, Int.pow_zero, Int.mul_one]
    have e3 : nhi l k l.length v = pre l k l.length v := by
      unfold nhi
      rw [rm_end, Int.pow_zero, Int.mul_one]
      omega
    rw [e2, e3, Int.pow_zero, Int.mul_one, Int.mul_one, show v + 1 - 1 = v by omega]
    exact ⟨rfl, rfl⟩
  | d + 1, j, v, h => by
    have hj : j < l.length := by omega
    have h0 := (pre_ends (l := l) (k := k) d (j + 1) (2 * v + 0) (by omega)).1
    have h1 := (pre_ends (l := l) (k := k) d (j + 1) (2 * v + 1) (by omega)).2
    have e0 : v * 2 ^ (d + 1) = (2 * v + 0) * 2 ^ d := by rw [Int.pow_succ, Int.add_zero, Int.mul_comm (2 ^ d) 2, ← Int.mul_assoc, Int.mul_comm v 2]
    have e1 : (v + 1) * 2 ^ (d + 1) = (2 * v + 1 + 1) * 2 ^ d := by rw [Int.pow_succ, Int.mul_comm (2 ^ d) 2, ← Int.mul_assoc, show (v + 1) * 2 = 2 * v + 1 + 1 by omega]
    rw [e0, e1, h0, h1]
    by_cases z : l.getD j 0 = 97 + k
    · obtain ⟨_, m1, _, m3, _, _⟩ := nlo_mid (v := v) hj z
      exact ⟨m1, m3⟩
    · exact ⟨(nlo_other hj (by decide) (by decide) z).1, (nlo_other hj (by decide) (by decide) z).2⟩
theorem nlo_le {l : List Nat} {k j : Nat} {v : Int} : nlo l k j v ≤ nhi l k j v := by
  have p := pow_pos' (rm l k j)
  unfold nlo nhi
  rw [Int.add_mul, Int.one_mul]
  omega
theorem adj_mid {l : List Nat} {bx : List (Int × Int)} {j d : Nat} {v : Int} (hl : ∀ c ∈ l, 97 ≤ c) (h : j + (d + 1) = l.length) :
    (inB l bx (v * 2 ^ (d + 1) + 2 ^ d - 1) && inB l bx (v * 2 ^ (d + 1) + 2 ^ d - 1 + 1)) = midIn l bx j v := by
  have hj : j < l.length := by omega
  have e0 : v * 2 ^ (d + 1) + 2 ^ d - 1 = (2 * v + 0 + 1) * 2 ^ d - 1 := by rw [Int.pow_succ, Int.add_zero, Int.add_mul, Int.one_mul, Int.mul_comm (2 ^ d) 2, ← Int.mul_assoc, Int.mul_comm v 2]
  have e1 : v * 2 ^ (d + 1) + 2 ^ d - 1 + 1 = (2 * v + 1) * 2 ^ d := by rw [Int.pow_succ, Int.add_mul, Int.one_mul, Int.mul_comm (2 ^ d) 2, ← Int.mul_assoc, Int.mul_comm v 2]; omega
  rw [e1, e0]
  unfold inB midIn
  rw [Bool.eq_iff_iff, Bool.and_eq_true, List.all_eq_true, List.all_eq_true, List.all_eq_true]
  have key : ∀ k, ((decide ((bx.getD k (0, 0)).1 ≤ pre l k l.length ((2 * v + 0 + 1) * 2 ^ d - 1)) && decide (pre l k l.length ((2 * v + 0 + 1) * 2 ^ d - 1) ≤ (bx.getD k (0, 0)).2)) = true ∧ (decide ((bx.getD k (0, 0)).1 ≤ pre l k l.length ((2 * v + 1) * 2 ^ d)) && decide (pre l k l.length ((2 * v + 1) * 2 ^ d) ≤ (bx.getD k (0, 0)).2)) = true) ↔
      (if k = l.getD j 0 - 97 then decide ((bx.getD k (0, 0)).1 ≤ nhi l k (j + 1) (2 * v + 0)) && decide (nlo l k (j + 1) (2 * v + 1) ≤ (bx.getD k (0, 0)).2) else decide ((bx.getD k (0, 0)).1 ≤ nlo l k j v) && decide (nhi l k j v ≤ (bx.getD k (0, 0)).2)) = true := fun k => by
    have p0 := (pre_ends (l := l) (k := k) d (j + 1) (2 * v + 0) (by omega)).2
    have p1 := (pre_ends (l := l) (k := k) d (j + 1) (2 * v + 1) (by omega)).1
    rw [p0, p1, Bool.and_eq_true, Bool.and_eq_true, decide_eq_true_eq, decide_eq_true_eq, decide_eq_true_eq, decide_eq_true_eq]
    by_cases z : l.getD j 0 = 97 + k
    · obtain ⟨_, m1, m2, m3, m4, m5⟩ := nlo_mid (v := v) hj z
      rw [if_pos (show k = l.getD j 0 - 97 by omega), Bool.and_eq_true, decide_eq_true_eq, decide_eq_true_eq]
      omega
    · have o0 := nlo_other (v := v) (b := 0) hj (by decide) (by decide) z
      have o1 := nlo_other (v := v) (b := 1) hj (by decide) (by decide) z
      have nl := nlo_le (l := l) (k := k) (j := j) (v := v)
      by_cases y : k = l.getD j 0 - 97
      · have y2 : 97 ≤ l.getD j 0 := hl _ (by rw [List.getD_eq_getElem?_getD, List.getElem?_eq_getElem hj]; exact List.getElem_mem hj)
        exact absurd (by omega) z
      · rw [if_neg y, Bool.and_eq_true, decide_eq_true_eq, decide_eq_true_eq, o0.2, o1.1]
        omega
  constructor
  · intro ⟨h1, h2⟩ k hk
    exact (key k).mp ⟨h1 k hk, h2 k hk⟩
  · intro h1
    exact ⟨fun k hk => ((key k).mpr (h1 k hk)).1, fun k hk => ((key k).mpr (h1 k hk)).2⟩
end WQ

/-! ## pairs of neighbouring keys by the step at which they part; finer boxes; the formula of one step (needs MKeys) -/
namespace WQ
open PySem PySem.Spec PyProof.Rows L2 WK WM
/-- this key and the next one part d letters ahead of the last one -/
def stp (d : Nat) (K : Int) : Bool := decide ((K + 1) % 2 ^ (d + 1) = 2 ^ d)
def pairJ (d : Nat) (ks : List Int) (t : Nat) : Int := if ks.getD (t + 1) 0 = ks.getD t 0 + 1 ∧ stp d (ks.getD t 0) = true then 1 else 0
theorem getD_left {ks : List Int} {x : Int} {t : Nat} (h : t < ks.length) : (ks ++ [x]).getD t 0 = ks.getD t 0 := by
  rw [List.getD_eq_getElem?_getD, List.getElem?_append_left h, ← List.getD_eq_getElem?_getD]
theorem getD_end {ks : List Int} {x : Int} : (ks ++ [x]).getD ks.length 0 = x := by
  rw [List.getD_eq_getElem?_getD, List.getElem?_append_right (Nat.le_refl _), Nat.sub_self]
  rfl
theorem pairs_snoc (d : Nat) (ks : List Int) (x : Int) (h : 0 < ks.length) : sumI (pairJ d (ks ++ [x])) ks.length = sumI (pairJ d ks) (ks.length - 1) + if x = ks.getD (ks.length - 1) 0 + 1 ∧ stp d (ks.getD (ks.length - 1) 0) = true then 1 else 0 := by
  obtain ⟨m, hm⟩ : ∃ m, ks.length = m + 1 := ⟨ks.length - 1, by omega⟩
  rw [hm, Nat.add_sub_cancel]
  show sumI (pairJ d (ks ++ [x])) m + pairJ d (ks ++ [x]) m = _
  congr 1
  · exact sumI_congr fun i hi => by
      unfold pairJ
      rw [getD_left (by omega), getD_left (by omega)]
  · unfold pairJ
    rw [← hm, getD_end, getD_left (by omega)]
theorem pairs_list (d : Nat) (p : Int → Bool) : ∀ m : Nat, sumI (pairJ d (listB p m)) ((listB p m).length - 1) = sumI (fun K => if (p (K : Int) && p ((K : Int) + 1)) = true ∧ stp d (K : Int) = true then 1 else 0) (m - 1)
  | 0 => rfl
  | m + 1 => by
    have ih := pairs_list d p m
    rw [listB_succ, Nat.add_sub_cancel]
    by_cases hm : p (m : Int) = true
    · rw [if_pos hm, List.length_append]
      show sumI (pairJ d (listB p m ++ [(m : Int)])) ((listB p m).length + 1 - 1) = _
      rw [Nat.add_sub_cancel]
      cases m with
      | zero => rfl
      | succ m =>
        rw [Nat.add_sub_cancel] at ih
        have hm2 : p ((m : Int) + 1) = true := hm
        show _ = sumI _ m + (if (p (m : Int) && p ((m : Int) + 1)) = true ∧ stp d (m : Int) = true then 1 else 0)
        rw [hm2, Bool.and_true]
        by_cases z : (listB p (m + 1)).length = 0
        · rw [z] at ih ⊢
          have hp : ¬ p (m : Int) = true := fun hp => by
            rw [listB_succ, if_pos hp, List.length_append] at z
            have : (listB p m).length + 1 = 0 := z
            omega
          rw [if_neg (fun q => hp q.1), ← ih]
          rfl
        · rw [pairs_snoc d _ _ (by omega), ih]
          congr 1
          by_cases hp : p (m : Int) = true
          · have el : (listB p (m + 1)).getD ((listB p (m + 1)).length - 1) 0 = (m : Int) := by
              rw [listB_succ, if_pos hp, List.length_append]
              exact getD_end
            rw [el]
            by_cases hs : stp d (m : Int) = true
            · rw [if_pos ⟨rfl, hs⟩, if_pos ⟨hp, hs⟩]
            · rw [if_neg (fun q => hs q.2), if_neg (fun q => hs q.2)]
          · rw [if_neg (fun q => ?_), if_neg (fun q => hp q.1)]
            have hlt : (listB p (m + 1)).length - 1 < (listB p (m + 1)).length := by omega
            have hmem : (listB p (m + 1)).getD ((listB p (m + 1)).length - 1) 0 ∈ listB p (m + 1) := by
              rw [List.getD_eq_getElem?_getD, List.getElem?_eq_getElem hlt]
              exact List.getElem_mem hlt
            obtain ⟨_, _, h3⟩ := listB_mem.mp hmem
            have h4 := q.1
            rw [show (listB p (m + 1)).getD ((listB p (m + 1)).length - 1) 0 = (m : Int) by omega] at h3
            exact hp h3
    · rw [if_neg hm, ih]
      cases m with
      | zero => rfl
      | succ m =>
        rw [Nat.add_sub_cancel]
        have hm2 : ¬ p ((m : Int) + 1) = true := hm
        show _ = sumI _ m + (if (p (m : Int) && p ((m : Int) + 1)) = true ∧ stp d (m : Int) = true then 1 else 0)
        rw [if_neg (fun q => hm2 (by have := q.1; rw [Bool.and_eq_true] at this; exact this.2)), Int.add_zero]
theorem sumI_blocks (f : Nat → Int) (B : Nat) : ∀ m : Nat, sumI f (m * B) = sumI (fun v => sumI (fun u => f (v * B + u)) B) m
  | 0 => by rw [Nat.zero_mul]; rfl
  | m + 1 => by
    rw [Nat.succ_mul, sumI_plus, sumI_blocks f B m]
    rfl
theorem sumI_one {f : Nat → Int} {u0 : Nat} : ∀ {B : Nat}, u0 < B → (∀ u, u < B → u ≠ u0 → f u = 0) → sumI f B = f u0
  | B + 1, h, hz => by
    show sumI f B + f B = _
    by_cases e : u0 = B
    · subst e
      rw [sumI_congr (g := fun _ => 0) fun i hi => hz i (by omega) (by omega), sumI_zero, Int.zero_add]
    · rw [sumI_one (by omega) fun u hu => hz u (by omega), hz B (by omega) (fun q => e q.symm), Int.add_zero]
theorem stp_at {d v u : Nat} (hu : u < 2 ^ (d + 1)) : stp d ((v * 2 ^ (d + 1) + u : Nat) : Int) = decide (u + 1 = 2 ^ d) := by
  unfold stp
  have e0 : (0 : Int) < 2 ^ d := pow_pos' d
  have e1 : (2 : Int) ^ (d + 1) = 2 * 2 ^ d := by rw [Int.pow_succ, Int.mul_comm]
  have e2 : (2 : Int) ^ d = ((2 ^ d : Nat) : Int) := pow_nat d
  have e3 : (2 : Nat) ^ (d + 1) = 2 * 2 ^ d := by rw [Nat.pow_succ, Nat.mul_comm]
  rw [show (((v * 2 ^ (d + 1) + u : Nat) : Int) + 1) = ((u : Int) + 1) + (v : Int) * 2 ^ (d + 1) by rw [Int.natCast_add, Int.natCast_mul, ← pow_nat]; omega, Int.add_mul_emod_self_right]
  by_cases h : u + 1 = 2 ^ (d + 1)
  · have h2 : (u : Int) + 1 = 2 ^ (d + 1) := by rw [pow_nat]; omega
    rw [h2, Int.emod_self]
    rw [decide_eq_decide]
    constructor
    · intro q
      omega
    · intro q
      omega
  · rw [Int.emod_eq_of_lt (by omega) (by rw [e1, e2]; omega), decide_eq_decide, e2]
    omega
/-- the pairs of keys that part at a step are those of the middles of its nodes -/
theorem pairs_step {l : List Nat} {bx : List (Int × Int)} {j d : Nat} (hl : ∀ c ∈ l, 97 ≤ c) (h : j + (d + 1) = l.length) :
    sumI (fun K => if (inB l bx (K : Int) && inB l bx ((K : Int) + 1)) = true ∧ stp d (K : Int) = true then 1 else 0) (2 ^ l.length - 1) = sumI (fun v => if midIn l bx j (v : Int) = true then 1 else 0) (2 ^ j) := by
  have en : (2 : Nat) ^ l.length = 2 ^ j * 2 ^ (d + 1) := by rw [← h, Nat.pow_add]
  have n0 : (0 : Nat) < 2 ^ l.length := Nat.pow_pos (by decide)
  have nd : (0 : Nat) < 2 ^ d := Nat.pow_pos (by decide)
  have e3 : (2 : Nat) ^ (d + 1) = 2 * 2 ^ d := by rw [Nat.pow_succ, Nat.mul_comm]
  generalize hf : (fun K : Nat => if (inB l bx (K : Int) && inB l bx ((K : Int) + 1)) = true ∧ stp d (K : Int) = true then (1 : Int) else 0) = f
  have hat : ∀ v u : Nat, u < 2 ^ (d + 1) → f (v * 2 ^ (d + 1) + u) = if u + 1 = 2 ^ d then (if midIn l bx j (v : Int) = true then 1 else 0) else 0 := fun v u hu => by
    rw [← hf]
    show (if _ ∧ stp d _ = true then (1 : Int) else 0) = _
    rw [stp_at hu]
    by_cases e : u + 1 = 2 ^ d
    · have hm := adj_mid (bx := bx) (v := (v : Int)) hl h
      have ek : ((v * 2 ^ (d + 1) + u : Nat) : Int) = (v : Int) * 2 ^ (d + 1) + 2 ^ d - 1 := by
        rw [Int.natCast_add, Int.natCast_mul, ← pow_nat, pow_nat d]
        omega
      rw [ek, hm, if_pos e]
      by_cases q : midIn l bx j (v : Int) = true
      · rw [if_pos q, if_pos ⟨q, by rw [decide_eq_true_iff]; exact e⟩]
      · rw [if_neg q, if_neg fun z => q z.1]
    · rw [if_neg e, if_neg fun z => e (by have := z.2; rwa [decide_eq_true_iff] at this)]
  have hlast : sumI f (2 ^ l.length) = sumI f (2 ^ l.length - 1) := by
    obtain ⟨m, hm⟩ : ∃ m, 2 ^ l.length = m + 1 := ⟨2 ^ l.length - 1, by omega⟩
    rw [hm, Nat.add_sub_cancel]
    show sumI f m + f m = _
    have j0 : (0 : Nat) < 2 ^ j := Nat.pow_pos (by decide)
    have em : m = (2 ^ j - 1) * 2 ^ (d + 1) + (2 ^ (d + 1) - 1) := by
      have : 2 ^ j * 2 ^ (d + 1) = (2 ^ j - 1) * 2 ^ (d + 1) + 2 ^ (d + 1) := by
        rw [← Nat.succ_mul]
        congr 1
        omega
      omega
    rw [show f m = 0 by rw [em, hat _ _ (by omega), if_neg (by omega)], Int.add_zero]
  rw [← hlast, en, sumI_blocks]
  refine sumI_congr fun v _ => ?_
  rw [sumI_one (u0 := 2 ^ d - 1) (by omega) (fun u hu hne => by rw [hat v u hu, if_neg (by omega)]), hat v _ (by omega), if_pos (by omega)]
/-- what the law counts key by key is what the program tells -/
theorem pairs_due {sh : List Int} {bx : List (Int × Int)} {l : List Nat} {j : Nat} (hW : WK.WOk l sh.length) (hl : cnts l sh.length = sh) (hb : BoxSh sh bx) (hj : j < l.length) :
    sumI (pairJ (l.length - 1 - j) (listB (inB l bx) (2 ^ l.length))) ((listB (inB l bx) (2 ^ l.length)).length - 1) = prs sh ⟨1, .inl bx⟩ (cnts (l.take j) sh.length) (l.getD j 0 - 97) := by
  rw [pairs_list, prs_count hW hl hb hj]
  exact pairs_step (fun c hc => (hW.rng c hc).1) (by omega)
/-! ### one step by floors -/
theorem div_neg_up {x B : Int} (hB : 0 < B) : (0 - x) / B = - ((x + B - 1) / B) := by
  have h1 := Int.emod_add_mul_ediv (x + B - 1) B
  have h2 := Int.emod_nonneg (x + B - 1) (show B ≠ 0 by omega)
  have h3 := Int.emod_lt_of_pos (x + B - 1) hB
  generalize (x + B - 1) / B = q at *
  generalize (x + B - 1) % B = r at *
  rw [show 0 - x = (B - 1 - r) + B * (-q) by rw [Int.mul_neg]; omega, Int.add_mul_ediv_left _ _ (by omega), Int.ediv_eq_zero_of_lt (by omega) (by omega), Int.zero_add]
theorem bk_floor {b t : Nat} {lo hi : Int} : bkF b (.st lo hi) t = (if (hi + 1) / 2 ^ (b - t) + (0 - lo) / 2 ^ (b - t) > 0 then (hi + 1) / 2 ^ (b - t) + (0 - lo) / 2 ^ (b - t) else 0) := by
  show bkn _ _ _ = _
  unfold bkn
  rw [div_neg_up (pow_pos' (b - t)), show lo + (hi - lo + 1) = hi + 1 by omega]
  omega
theorem half_div {x h : Int} (hh : 0 < h) : (x + h) / (2 * h) = x / h - x / (2 * h) := by
  have h1 := Int.emod_add_mul_ediv x (2 * h)
  have h2 := Int.emod_nonneg x (show 2 * h ≠ 0 by omega)
  have h3 := Int.emod_lt_of_pos x (show 0 < 2 * h by omega)
  generalize x / (2 * h) = q at *
  generalize x % (2 * h) = r at *
  subst h1
  have e1 : r + 2 * h * q = r + h * (2 * q) := by rw [Int.mul_comm 2 h, Int.mul_assoc]
  rw [show r + 2 * h * q + h = (r + h) + (2 * h) * q by omega, Int.add_mul_ediv_left _ _ (by omega), e1, Int.add_mul_ediv_left _ _ (by omega)]
  by_cases c : r < h
  · rw [Int.ediv_eq_zero_of_lt (by omega) (by omega), Int.ediv_eq_zero_of_lt (by omega) (by omega)]
    omega
  · rw [show r + h = (r - h) + (2 * h) * 1 by omega, Int.add_mul_ediv_left _ _ (by omega), Int.ediv_eq_zero_of_lt (by omega) (by omega), show r = (r - h) + h * 1 by omega, Int.add_mul_ediv_left _ _ (by omega), Int.ediv_eq_zero_of_lt (by omega) (by omega)]
    omega
theorem md_floor {b t : Nat} {lo hi : Int} (ht : t < b) : mdF b (.st lo hi) t = (hi + 2 ^ (b - t) / 2) / 2 ^ (b - t) - (lo + 2 ^ (b - t) / 2) / 2 ^ (b - t) := by
  show mdn _ _ _ = _
  unfold mdn
  have e : (2 : Int) ^ (b - t) = 2 * 2 ^ (b - t - 1) := by rw [show b - t = (b - t - 1) + 1 by omega, Int.pow_succ, Int.mul_comm]; rfl
  have p := pow_pos' (b - t - 1)
  rw [e, show (2 * (2 : Int) ^ (b - t - 1)) / 2 = 2 ^ (b - t - 1) by omega, half_div p, half_div p, show lo + (hi - lo + 1) - 1 = hi by omega]
  omega
/-! ### finer boxes -/
theorem div_fine {x B M : Int} {r : Int} (hM : 0 < M) (hB : 0 < B) (r0 : 0 ≤ r) (r1 : r < M) : (x * M + r) / (B * M) = x / B := by
  rw [Int.mul_comm B M, ← Int.ediv_ediv_of_nonneg (by omega), Int.add_comm, Int.add_mul_ediv_right _ _ (by omega), Int.ediv_eq_zero_of_lt r0 r1, Int.zero_add]
theorem bk_fine {b m t : Nat} {lo hi : Int} (ht : t ≤ b) : bkF (b + m) (.st (lo * 2 ^ m) ((hi + 1) * 2 ^ m - 1)) t = bkF b (.st lo hi) t := by
  show bkn _ _ _ = bkn _ _ _
  unfold bkn
  have pm := pow_pos' m
  have pb := pow_pos' (b - t)
  rw [show b + m - t = (b - t) + m by omega, Int.pow_add, show lo * 2 ^ m + ((hi + 1) * 2 ^ m - 1 - lo * 2 ^ m + 1) = (hi + 1) * 2 ^ m + 0 by omega, div_fine pm pb (Int.le_refl _) pm,
    show lo * 2 ^ m + 2 ^ (b - t) * 2 ^ m - 1 = (lo + 2 ^ (b - t) - 1) * 2 ^ m + (2 ^ m - 1) by rw [Int.sub_mul, Int.add_mul, Int.one_mul]; omega, div_fine pm pb (by omega) (by omega), show lo + (hi - lo + 1) = hi + 1 by omega]
theorem md_fine {b m t : Nat} {lo hi : Int} (ht : t < b) : mdF (b + m) (.st (lo * 2 ^ m) ((hi + 1) * 2 ^ m - 1)) t = mdF b (.st lo hi) t := by
  show mdn _ _ _ = mdn _ _ _
  unfold mdn
  have pm := pow_pos' m
  have pb := pow_pos' (b - t - 1)
  have e1 : lo * 2 ^ m + ((hi + 1) * 2 ^ m - 1 - lo * 2 ^ m + 1) - 1 = hi * 2 ^ m + (2 ^ m - 1) := by rw [Int.add_mul, Int.one_mul]; omega
  have e2 : lo * (2 : Int) ^ m = lo * 2 ^ m + 0 := (Int.add_zero _).symm
  rw [e1, show b + m - t - 1 = (b - t - 1) + m by omega, Int.pow_add, ← Int.mul_assoc, e2, div_fine pm pb (by omega) (by omega), div_fine pm pb (Int.le_refl _) pm, div_fine pm (by omega) (by omega) (by omega), div_fine pm (by omega) (Int.le_refl _) pm, show lo + (hi - lo + 1) - 1 = hi by omega]
theorem bk_deep {b m e : Nat} {lo hi : Int} (he : e ≤ m) (hl : lo ≤ hi) : bkF (b + m) (.st (lo * 2 ^ m) ((hi + 1) * 2 ^ m - 1)) (b + e) = (hi - lo + 1) * 2 ^ e := by
  show bkn _ _ _ = _
  unfold bkn
  have pr := pow_pos' (m - e)
  have pe := pow_pos' e
  have em : (2 : Int) ^ m = 2 ^ e * 2 ^ (m - e) := by rw [← Int.pow_add]; congr 1; omega
  rw [show b + m - (b + e) = m - e by omega, show lo * 2 ^ m + ((hi + 1) * 2 ^ m - 1 - lo * 2 ^ m + 1) = (hi + 1) * 2 ^ m by omega, em, ← Int.mul_assoc, ← Int.mul_assoc, Int.mul_ediv_cancel _ (by omega),
    show lo * 2 ^ e * 2 ^ (m - e) + 2 ^ (m - e) - 1 = (2 ^ (m - e) - 1) + lo * 2 ^ e * 2 ^ (m - e) by omega, Int.add_mul_ediv_right _ _ (by omega), Int.ediv_eq_zero_of_lt (by omega) (by omega), Int.zero_add, ← Int.sub_mul, show hi + 1 - lo = hi - lo + 1 by omega]
  have : 0 ≤ (hi - lo + 1) * 2 ^ e := Int.mul_nonneg (by omega) (by omega)
  omega
theorem md_deep {b m e : Nat} {lo hi : Int} (he : e < m) : mdF (b + m) (.st (lo * 2 ^ m) ((hi + 1) * 2 ^ m - 1)) (b + e) = (hi - lo + 1) * 2 ^ e := by
  show mdn _ _ _ = _
  unfold mdn
  have pr := pow_pos' (m - e - 1)
  have em : (2 : Int) ^ m = 2 ^ e * (2 * 2 ^ (m - e - 1)) := by
    rw [show m = e + ((m - e - 1) + 1) by omega, Int.pow_add, Int.pow_succ, Int.mul_comm (2 ^ (m - e - 1)) 2, show e + (m - e - 1 + 1) - e - 1 = m - e - 1 by omega]
  have em2 : (2 : Int) ^ m = (2 * 2 ^ e) * 2 ^ (m - e - 1) := by rw [em, ← Int.mul_assoc, Int.mul_comm (2 ^ e) 2]
  have e1 : lo * 2 ^ m + ((hi + 1) * 2 ^ m - 1 - lo * 2 ^ m + 1) - 1 = (hi + 1) * 2 ^ m - 1 := by omega
  have h1 : ∀ x : Int, x * 2 ^ m / 2 ^ (m - e - 1) = x * (2 * 2 ^ e) := fun x => by rw [em2, ← Int.mul_assoc, Int.mul_ediv_cancel _ (by omega)]
  have h2 : ∀ x : Int, x * 2 ^ m / (2 * 2 ^ (m - e - 1)) = x * 2 ^ e := fun x => by rw [em, ← Int.mul_assoc, Int.mul_ediv_cancel _ (by omega)]
  have h3 : ∀ x : Int, (x * 2 ^ m - 1) / 2 ^ (m - e - 1) = x * (2 * 2 ^ e) - 1 := fun x => by
    rw [em2, ← Int.mul_assoc, show x * (2 * 2 ^ e) * 2 ^ (m - e - 1) - 1 = (2 ^ (m - e - 1) - 1) + (x * (2 * 2 ^ e) - 1) * 2 ^ (m - e - 1) by rw [Int.sub_mul, Int.one_mul]; omega, Int.add_mul_ediv_right _ _ (by omega), Int.ediv_eq_zero_of_lt (by omega) (by omega), Int.zero_add]
  have h4 : ∀ x : Int, (x * 2 ^ m - 1) / (2 * 2 ^ (m - e - 1)) = x * 2 ^ e - 1 := fun x => by
    rw [em, ← Int.mul_assoc, show x * 2 ^ e * (2 * 2 ^ (m - e - 1)) - 1 = (2 * 2 ^ (m - e - 1) - 1) + (x * 2 ^ e - 1) * (2 * 2 ^ (m - e - 1)) by rw [Int.sub_mul, Int.one_mul]; omega, Int.add_mul_ediv_right _ _ (by omega), Int.ediv_eq_zero_of_lt (by omega) (by omega), Int.zero_add]
  rw [e1, show b + m - (b + e) - 1 = m - e - 1 by omega, h1, h2, h3, h4]
  have g1 : ∀ x : Int, x * (2 * 2 ^ e) = 2 * (x * 2 ^ e) := fun x => by rw [← Int.mul_assoc, Int.mul_comm x 2, Int.mul_assoc]
  rw [g1, g1, show hi - lo + 1 = (hi + 1) - lo by omega, Int.sub_mul]
  omega
end WQ

section
variable {P : Program} {w : World} {K : PySem.W.Frag} {mg : Str → Option Value} {base : Heap}
/-! ### the brook: a list of three ints, drawn from -/
def sp__law_bowl (K : PySem.W.Frag) : Sp := fun vs H Q _ => ∃ (s : Addr) (ns : List Int) (k : Int), vs = [.ref s, .int k] ∧ SqL K H s (ns.map V.int) ∧ ns.length ≤ 63 ∧ 0 ≤ k ∧ k ≤ 100 ∧ ∀ p o, H p = none → Br3 o 0 → Q (.ref p) (upd H p o)
theorem O__law_bowl (T : Txt K mg) : Ok P w K mg base CX0 1 "_law_bowl" ["_law_script", "_law_k"] (sp__law_bowl K) :=
  Ok.mk0 T.f__law_bowl T.g__law_bowl sc__law_bowl (by rintro vs H Q E ⟨s, ns, k, rfl, _⟩; rfl) (fun _ _ _ _ _ _ us hl => match us, hl with | [_, _], _ => rfl) (fun f cdv A outer s H vs Q E hr h => by
    obtain ⟨a, ns, k, rfl, hS, hl, k0, k1, q⟩ := h
    refine ⟨_, (pss_cons (ps_set (i := 2) sc__law_bowl.nd rfl (.inl rfl) pe_int)
    (pss_cons (ps_if (pt_cmpR op_lt (pv 1) (pe_callB (lenU K) (by rfl) T.n_len (by decide +kernel) (pa_cons (pv 0) pa_nil)) (nomark _)) (pss_one (ps_set (i := 2) sc__law_bowl.nd rfl (.inl rfl) (pe_ix (ixL K) (pv 0) (pv 1) (fun _ _ => rfl)))) pss_nil)
    (pss_one (ps_ret (pe_lst (pa_cons (pe_callB max2 (by rfl) T.n_max (by decide +kernel) (pa_cons pe_int (pa_cons (pe_op op_sub (pv 2) (pe_cpow (v := 1000000000000000000) (by decide +kernel))) pa_nil))) (pa_cons (pe_op op_add (pe_op op_mod (pe_callTy intI (by rfl) T.n_int (by decide +kernel) (pa_cons (pv 2) pa_nil)) (pe_op op_add (pe_cpow (v := 100000000000000000000000000000000000000) (by decide +kernel)) pe_int)) (pe_op op_mulX pe_int (pv 1))) (pa_cons pe_int pa_nil)))))))), ?_⟩
    have key : ∀ c : Int, ∀ p, H p = none → Q (.ref p) (upd H p (.lst [.int (if c - 1000000000000000000 > 0 then c - 1000000000000000000 else 0), .int (c % (100000000000000000000000000000000000000 + 133) + 15487469 * k), .int 0])) := fun c p np => by
      refine q p _ np ⟨_, _, _, rfl, by split <;> omega, ?_, ?_, by omega, by omega⟩
      · have := Int.emod_nonneg c (show (100000000000000000000000000000000000000 + 133 : Int) ≠ 0 by decide)
        omega
      · have h1 := Int.emod_lt_of_pos c (show (0 : Int) < 1000000000000000000000000000000000000000 + 37 by decide)
        have h2 : (2 : Int) ^ 160 = 1461501637330902918203684832716283019655932542976 := by decide +kernel
        rw [h2]
        omega
    walk_at "vc"
    have c2 : CMulX 15487469 k := mulx_of (a := 30) (b := 8) (by decide) (by decide) k0 (Int.lt_of_le_of_lt k1 (by decide)) (by decide)
    refine ⟨_, .inl ⟨_, hS, rfl⟩, if_d (fun e => ?_) (fun e => ?_)⟩
    · rw [List.length_map] at e
      have hk : k.toNat < ns.length := by omega
      have g : (ns.map V.int)[k.toNat]? = some (.int ns[k.toNat]) := by
        rw [List.getElem?_map, List.getElem?_eq_getElem hk]
        rfl
      exact ⟨_, hS, _, at_of (by omega) g, _, rfl, _, rfl, by decide, c2, le_size (by decide), fun p np => key _ p np⟩
    · exact ⟨by decide, c2, le_size (by decide), fun p np => key _ p np⟩)
/-- a draw: below m, from a brook that goes on -/
def sp1__law_pick : Sp := fun vs H Q _ => ∃ (a : Addr) (m : Int) (n : Nat), vs = [.ref a, .int m] ∧ Br a n H ∧ n ≤ 2 ^ 60 ∧ 1 ≤ m ∧ m ≤ 1000000000000000000000000000000 ∧ ∀ r o, 0 ≤ r → r < m → Br3 o (n + 1) → Q (.int r) (upd H a o)
theorem O1__law_pick (T : Txt K mg) : Ok P w K mg base CX0 1 "_law_pick" ["_law_bowl_here", "_law_bound"] sp1__law_pick :=
  Ok.mk0 T.f__law_pick T.g__law_pick sc__law_pick (by rintro vs H Q E ⟨s, ns, k, rfl, _⟩; rfl) (fun _ _ _ _ _ _ us hl => match us, hl with | [_, _], _ => rfl) (fun f cdv A outer s H vs Q E hr h => by
    obtain ⟨a, m, n, rfl, ⟨o, ha, x, y, z, rfl, x0, y0, y1, z0, z1⟩, hn, m0, m1, q⟩ := h
    refine ⟨_, (pss_cons (ps_if (pt_cmpR op_gt (pv 1) (pe_cpow (v := 1000000000000000000000000000000) (by decide +kernel)) (nomark _)) pss_never pss_nil)
    (pss_cons (ps_if (pt_cmpR op_gt (pe_ix (ixL K) (pv 0) pe_int (fun _ _ => rfl)) pe_int (nomark _)) (pss_cons (ps_set (i := 2) sc__law_pick.nd rfl (.inl rfl) (pe_op op_mod (pe_callTy intI (by rfl) T.n_int (by decide +kernel) (pa_cons (pe_ix (ixL K) (pv 0) pe_int (fun _ _ => rfl)) pa_nil)) (pv 1)))
    (pss_cons (ps_asg (pe_op op_fdivW (pe_ix (ixL K) (pv 0) pe_int (fun _ _ => rfl)) (pv 1)) (pg_sub (pv 0) pe_int set_list))
    (pss_one (ps_ret (pv 2))))) pss_nil)
    (pss_cons (ps_asg (pe_op op_add (pe_ix (ixL K) (pv 0) pe_int (fun _ _ => rfl)) pe_int) (pg_sub (pv 0) pe_int set_list))
    (pss_cons (ps_set (i := 4) sc__law_pick.nd rfl (.inl rfl) (pe_op op_mod (pe_callTy intI (by rfl) T.n_int (by decide +kernel) (pa_cons (pe_op op_powW (pe_op op_add (pe_ix (ixL K) (pv 0) pe_int (fun _ _ => rfl)) (pe_op op_mulX pe_int (pe_ix (ixL K) (pv 0) pe_int (fun _ _ => rfl)))) pe_int) pa_nil)) (pe_op op_add (pe_cpow (v := 1000000000000000000000000000000000000000000) (by decide +kernel)) pe_int)))
    (pss_cons (ps_set (i := 4) sc__law_pick.nd rfl (.inl rfl) (pe_op op_mod (pe_callTy intI (by rfl) T.n_int (by decide +kernel) (pa_cons (pe_op op_powW (pe_op op_add (pv 4) (pe_op op_mulX pe_int (pe_ix (ixL K) (pv 0) pe_int (fun _ _ => rfl)))) pe_int) pa_nil)) (pe_op op_add (pe_cpow (v := 100000000000000000000000000000000000000000000) (by decide +kernel)) pe_int)))
    (pss_one (ps_ret (pe_op op_mod (pe_callTy intI (by rfl) T.n_int (by decide +kernel) (pa_cons (pe_op op_fdivW (pv 4) pe_int) pa_nil)) (pv 1))))))))), ?_⟩
    walk_at "vc"
    refine if_d (fun e => absurd e (by omega)) (fun _ => ?_)
    refine ⟨_, sqL_of ha, _, rfl, _, rfl, if_d (fun e => ?_) (fun e => ?_)⟩
    · refine ⟨_, sqL_of ha, _, rfl, _, rfl, by omega, _, sqL_of ha, _, rfl, _, rfl, cdiv_of (k := 100) (by omega) (Int.lt_of_le_of_lt m1 (by decide +kernel)) (by decide), _, ha, _, rfl, ?_⟩
      exact q _ _ (Int.emod_nonneg _ (by omega)) (Int.emod_lt_of_pos _ (by omega)) ⟨_, _, _, rfl, Int.ediv_nonneg x0 (by omega), y0, y1, z0, by omega⟩
    · have zb : z + 1 < 2 ^ 61 := by
        have : (2 : Int) ^ 61 = 2305843009213693952 := by decide
        have : (2 : Nat) ^ 60 = 1152921504606846976 := by decide
        omega
      have p1 : 49979687 * (z + 1) < 2 ^ (28 + 61) := mul_lt_pow (by decide) (by decide) (by omega) zb
      have p2 : y + 49979687 * (z + 1) < 2 ^ 161 := by
        have : (2 : Int) ^ 161 = 2 * 2 ^ 160 := by decide
        have : (2 : Int) ^ (28 + 61) ≤ 2 ^ 160 := pow_le (by decide)
        omega
      have p3 : ∀ c : Int, 0 ≤ c % (1000000000000000000000000000000000000000000 + 63) ∧ c % (1000000000000000000000000000000000000000000 + 63) < 2 ^ 147 := fun c =>
        ⟨Int.emod_nonneg c (by decide), Int.lt_trans (Int.emod_lt_of_pos c (by decide)) (by decide +kernel)⟩
      have p4 : 67867967 * (z + 1) < 2 ^ (28 + 61) := mul_lt_pow (by decide) (by decide) (by omega) zb
      have p5 : ∀ c : Int, c % (1000000000000000000000000000000000000000000 + 63) + 67867967 * (z + 1) < 2 ^ 148 := fun c => by
        have h := (p3 c).2
        have : (2 : Int) ^ 148 = 2 * 2 ^ 147 := by decide
        have : (2 : Int) ^ (28 + 61) ≤ 2 ^ 147 := pow_le (by decide)
        omega
      refine ⟨_, sqL_of ha, _, rfl, _, rfl, _, ha, _, rfl, _, sqL_of upd_same, _, rfl, _, sqL_of upd_same, _, rfl, _, rfl, mulx_of (a := 28) (b := 61) (by decide) (by decide) (by omega) zb (by decide), _, rfl, powW_ok (n := 161) (k := 3) (nn_lt (by omega) p2) (by decide), by decide, ?_⟩
      refine ⟨_, sqL_of upd_same, _, rfl, _, rfl, mulx_of (a := 28) (b := 61) (by decide) (by decide) (by omega) zb (by decide), powW_ok (n := 148) (k := 3) (nn_lt (by have := (p3 ((y + 49979687 * (z + 1)) ^ (3 : Int).toNat)).1; omega) (p5 _)) (by decide), by decide, cdiv_of (k := 20) (by decide) (by decide) (by decide), by omega, ?_⟩
      exact q _ _ (Int.emod_nonneg _ (by omega)) (Int.emod_lt_of_pos _ (by omega)) ⟨_, _, _, rfl, x0, y0, y1, by omega, by omega⟩)
/-- a draw below any bound -/

def sp__law_pick : Sp := fun vs H Q _ => ∃ (a : Addr) (m : Int) (n : Nat), vs = [.ref a, .int m] ∧ Br a n H ∧ n ≤ 2 ^ 59 ∧ 1 ≤ m ∧ m < 2 ^ (1000 : Nat) ∧ ∀ r o, 0 ≤ r → r < m → Br3 o (n + 20) → Q (.int r) (upd H a o)
theorem O__law_pick (T : Txt K mg) : Ok P w K mg base CX0 2 "_law_pick" ["_law_bowl_here", "_law_bound"] sp__law_pick :=
  Ok.mk0 T.f__law_pick T.g__law_pick sc__law_pick (by rintro vs H Q E ⟨s, ns, k, rfl, _⟩; rfl) (fun _ _ _ _ _ _ us hl => match us, hl with | [_, _], _ => rfl) (fun f cdv A outer s H vs Q E hr h => by
    obtain ⟨a, m, n, rfl, ⟨o, ha, x, y, z, rfl, x0, y0, y1, z0, z1⟩, hn, m0, m1, q⟩ := h
    refine ⟨_, (pss_cons (ps_if (pt_cmpR op_gt (pv 1) (pe_cpow (v := 1000000000000000000000000000000) (by decide +kernel)) (nomark _)) (pss_cons (ps_set (i := 2) sc__law_pick.nd rfl (.inl rfl) pe_int)
    (pss_cons (ps_for PassesOwn.never rfl (pi_range1 (by rfl) T.n_range (pa_cons (pe_op op_add pe_int (pe_op op_fdivW (pe_bits (pv 1)) pe_int)) pa_nil)) (pg_name (i := 3) sc__law_pick.nd rfl (.inl rfl)) (pss_one (ps_set (i := 2) sc__law_pick.nd rfl (.inl rfl) (pe_op op_add (pe_op op_mulX (pv 2) (pe_cpow (v := 1000000000000000000000000000000) (by decide +kernel))) (cal (O1__law_pick T) hr (pa_cons (pv 0) (pa_cons (pe_cpow (v := 1000000000000000000000000000000) (by decide +kernel)) pa_nil)))))))
    (pss_one (ps_ret (pe_op op_mod (pe_callTy intI (by rfl) T.n_int (by decide +kernel) (pa_cons (pv 2) pa_nil)) (pv 1)))))) pss_nil)
    (pss_cons (ps_if (pt_cmpR op_gt (pe_ix (ixL K) (pv 0) pe_int (fun _ _ => rfl)) pe_int (nomark _)) (pss_cons (ps_set (i := 2) sc__law_pick.nd rfl (.inl rfl) (pe_op op_mod (pe_callTy intI (by rfl) T.n_int (by decide +kernel) (pa_cons (pe_ix (ixL K) (pv 0) pe_int (fun _ _ => rfl)) pa_nil)) (pv 1)))
    (pss_cons (ps_asg (pe_op op_fdivW (pe_ix (ixL K) (pv 0) pe_int (fun _ _ => rfl)) (pv 1)) (pg_sub (pv 0) pe_int set_list))
    (pss_one (ps_ret (pv 2))))) pss_nil)
    (pss_cons (ps_asg (pe_op op_add (pe_ix (ixL K) (pv 0) pe_int (fun _ _ => rfl)) pe_int) (pg_sub (pv 0) pe_int set_list))
    (pss_cons (ps_set (i := 4) sc__law_pick.nd rfl (.inl rfl) (pe_op op_mod (pe_callTy intI (by rfl) T.n_int (by decide +kernel) (pa_cons (pe_op op_powW (pe_op op_add (pe_ix (ixL K) (pv 0) pe_int (fun _ _ => rfl)) (pe_op op_mulX pe_int (pe_ix (ixL K) (pv 0) pe_int (fun _ _ => rfl)))) pe_int) pa_nil)) (pe_op op_add (pe_cpow (v := 1000000000000000000000000000000000000000000) (by decide +kernel)) pe_int)))
    (pss_cons (ps_set (i := 4) sc__law_pick.nd rfl (.inl rfl) (pe_op op_mod (pe_callTy intI (by rfl) T.n_int (by decide +kernel) (pa_cons (pe_op op_powW (pe_op op_add (pv 4) (pe_op op_mulX pe_int (pe_ix (ixL K) (pv 0) pe_int (fun _ _ => rfl)))) pe_int) pa_nil)) (pe_op op_add (pe_cpow (v := 100000000000000000000000000000000000000000000) (by decide +kernel)) pe_int)))
    (pss_one (ps_ret (pe_op op_mod (pe_callTy intI (by rfl) T.n_int (by decide +kernel) (pa_cons (pe_op op_fdivW (pv 4) pe_int) pa_nil)) (pv 1))))))))), ?_⟩
    walk_at "vc"
    have p60 : (2 : Nat) ^ 60 = 1152921504606846976 := by decide
    have p59 : (2 : Nat) ^ 59 = 576460752303423488 := by decide
    refine if_d (fun e => ?_) (fun e => ?_)
    · have hb : Builtin.Int.intBits m ≤ 1000 := PyProof.Rows.intBits_le (k := 1000) (nn_lt (by omega) m1)
      generalize Builtin.Int.intBits m = B at hb
      have eT : (1 + (B : Int) / 90).toNat = 1 + B / 90 := by omega
      refine ⟨cdiv_of (k := 10) (by decide) (by decide) (by decide), by omega, by omega, ?_⟩
      rw [eT]
      have hT : 1 + B / 90 ≤ 12 := by omega
      generalize 1 + B / 90 = T at hT
      refine loop_r0 (fun i σ' H' => ∃ (f : Int) (y3 : Option V) (o : HO), σ' = [some (.ref a), some (.int m), some (.int f), y3, none] ∧ 0 ≤ f ∧ f < 2 ^ (100 * i) ∧ H' = upd H a o ∧ Br3 o (n + i))
        ⟨0, none, .lst [.int x, .int y, .int z], rfl, by decide, by decide, ?_, x, y, z, rfl, x0, y0, y1, z0, by omega⟩ ?_ ?_
      · funext b
        by_cases hb2 : b = a
        · rw [hb2, upd_same, ha]
        · rw [upd_ne hb2]
      · rintro i σ' H' hi ⟨f, y3, o, rfl, f0, f1, rfl, hB⟩
        walk_at "vc"
        have f2 : f < 2 ^ 1200 := lt_pow f1 (by omega)
        refine ⟨mulx_of (a := 1200) (b := 100) f0 f2 (by decide) (by decide +kernel) (by decide), a, 1000000000000000000000000000000, n + i, rfl, ⟨o, upd_same, hB⟩, by omega, by decide, by decide, fun r o2 r0 r1 hB2 => ?_⟩
        refine ⟨_, rfl, by omega, ?_, o2, upd_upd, hB2⟩
        have e1 : (2 : Int) ^ (100 * (i + 1)) = 2 ^ (100 * i) * 2 ^ 100 := by rw [Nat.mul_add, Int.pow_add]
        have e2 : (2 : Int) ^ 100 = 1267650600228229401496703205376 := by decide +kernel
        rw [e1, e2]
        omega
      · rintro σ' H' ⟨f, y3, o, rfl, f0, f1, rfl, hB⟩
        walk_at "vc"
        exact ⟨by omega, q _ _ (Int.emod_nonneg _ (by omega)) (Int.emod_lt_of_pos _ (by omega)) (hB.mono (by omega))⟩
    · have m1 : m ≤ 1000000000000000000000000000000 := by omega
      have hn : n ≤ 2 ^ 60 := by omega
      have q1 : ∀ r o, 0 ≤ r → r < m → Br3 o (n + 1) → Q (.int r) (upd H a o) := fun r o r0 r1 hB => q r o r0 r1 (hB.mono (by omega))
      refine ⟨_, sqL_of ha, _, rfl, _, rfl, if_d (fun e => ?_) (fun e => ?_)⟩
      · refine ⟨_, sqL_of ha, _, rfl, _, rfl, by omega, _, sqL_of ha, _, rfl, _, rfl, cdiv_of (k := 100) (by omega) (Int.lt_of_le_of_lt m1 (by decide +kernel)) (by decide), _, ha, _, rfl, ?_⟩
        exact q1 _ _ (Int.emod_nonneg _ (by omega)) (Int.emod_lt_of_pos _ (by omega)) ⟨_, _, _, rfl, Int.ediv_nonneg x0 (by omega), y0, y1, z0, by omega⟩
      · have zb : z + 1 < 2 ^ 61 := by
          have : (2 : Int) ^ 61 = 2305843009213693952 := by decide
          have : (2 : Nat) ^ 60 = 1152921504606846976 := by decide
          omega
        have p1 : 49979687 * (z + 1) < 2 ^ (28 + 61) := mul_lt_pow (by decide) (by decide) (by omega) zb
        have p2 : y + 49979687 * (z + 1) < 2 ^ 161 := by
          have : (2 : Int) ^ 161 = 2 * 2 ^ 160 := by decide
          have : (2 : Int) ^ (28 + 61) ≤ 2 ^ 160 := pow_le (by decide)
          omega
        have p3 : ∀ c : Int, 0 ≤ c % (1000000000000000000000000000000000000000000 + 63) ∧ c % (1000000000000000000000000000000000000000000 + 63) < 2 ^ 147 := fun c =>
          ⟨Int.emod_nonneg c (by decide), Int.lt_trans (Int.emod_lt_of_pos c (by decide)) (by decide +kernel)⟩
        have p4 : 67867967 * (z + 1) < 2 ^ (28 + 61) := mul_lt_pow (by decide) (by decide) (by omega) zb
        have p5 : ∀ c : Int, c % (1000000000000000000000000000000000000000000 + 63) + 67867967 * (z + 1) < 2 ^ 148 := fun c => by
          have h := (p3 c).2
          have : (2 : Int) ^ 148 = 2 * 2 ^ 147 := by decide
          have : (2 : Int) ^ (28 + 61) ≤ 2 ^ 147 := pow_le (by decide)
          omega
        refine ⟨_, sqL_of ha, _, rfl, _, rfl, _, ha, _, rfl, _, sqL_of upd_same, _, rfl, _, sqL_of upd_same, _, rfl, _, rfl, mulx_of (a := 28) (b := 61) (by decide) (by decide) (by omega) zb (by decide), _, rfl, powW_ok (n := 161) (k := 3) (nn_lt (by omega) p2) (by decide), by decide, ?_⟩
        refine ⟨_, sqL_of upd_same, _, rfl, _, rfl, mulx_of (a := 28) (b := 61) (by decide) (by decide) (by omega) zb (by decide), powW_ok (n := 148) (k := 3) (nn_lt (by have := (p3 ((y + 49979687 * (z + 1)) ^ (3 : Int).toNat)).1; omega) (p5 _)) (by decide), by decide, cdiv_of (k := 20) (by decide) (by decide) (by decide), by omega, ?_⟩
        exact q1 _ _ (Int.emod_nonneg _ (by omega)) (Int.emod_lt_of_pos _ (by omega)) ⟨_, _, _, rfl, x0, y0, y1, by omega, by omega⟩)

theorem pick_do {a : Addr} {m : Int} {n : Nat} {H : Hp} {Q : VK} {E : XK} (hB : Br a n H) (hn : n ≤ 2 ^ 59) (m0 : 1 ≤ m) (m1 : m < 2 ^ (1000 : Nat)) (q : ∀ r o, 0 ≤ r → r < m → Br3 o (n + 20) → Q (.int r) (upd H a o)) : sp__law_pick [.ref a, .int m] H Q E :=
  ⟨a, m, n, rfl, hB, hn, m0, m1, q⟩

/-! ### the bowl and the weave, by data -/
def sq__law_bowl : PSp := fun ds c Q => ∃ (ns : List Int) (k : Int), ds = [.slst ns, .int k] ∧ ns.length ≤ 63 ∧ 0 ≤ k ∧ k ≤ 100 ∧ Q .brk c
theorem Q__law_bowl (T : Txt K mg) : Ok P w K mg base CX0 1 "_law_bowl" ["_law_script", "_law_k"] (spP K 2 sq__law_bowl) :=
  Ok.imp (O__law_bowl T) fun vs H Q E h => by
    obtain ⟨w1, c, ds, Qp, o, r, _, ⟨ns, k, rfl, hl, k0, k1, q⟩, kk⟩ := h
    obtain ⟨v, u, rfl, r1, r2⟩ := RPs.two r
    obtain ⟨a, rfl, hs⟩ := RB.slst (.inl r1)
    rw [RP.int r2]
    refine ⟨a, ns, k, rfl, hs, hl, k0, k1, fun p ob np hB => ?_⟩
    obtain ⟨l2, o2, r3⟩ := brk_new (K := K) o np hB
    exact kk _ _ _ c _ l2 o2 r3 q
def sq__law_pick : PSp := fun ds c Q => ∃ m : Int, ds = [.brk, .int m] ∧ c.n ≤ 2 ^ 59 ∧ 1 ≤ m ∧ m < 2 ^ (1000 : Nat) ∧ ∀ r, 0 ≤ r → r < m → Q (.int r) (c.add 20)
theorem Q__law_pick (T : Txt K mg) : Ok P w K mg base CX0 2 "_law_pick" ["_law_bowl_here", "_law_bound"] (spP K 2 sq__law_pick) :=
  Ok.imp (O__law_pick T) fun vs H Q E h => by
    obtain ⟨w1, c, ds, Qp, o, r, _, ⟨m, rfl, hc, m0, m1, q⟩, kk⟩ := h
    obtain ⟨v, u, rfl, r1, r2⟩ := RPs.two r
    obtain ⟨a, rfl, hs⟩ := RP.brk r1
    rw [RP.int r2]
    refine ⟨a, m, c.n, rfl, o.br a hs, hc, m0, m1, fun r ob r0 r1 hB => ?_⟩
    have b : But a H (upd H a ob) := But.refl.at
    exact kk _ _ w1 (c.add 20) _ (but_le b hs) (but_ok o b (Br.put hB) (Nat.le_add_right _ _)) (Rep.int r) (q r r0 r1)

/-! ### a, b, d = x, [..], y where one of the names lives in a cell -/
instance parO3_i {K : PySem.W.Frag} {ta : TA} {pa : PX (List Sl)} {i j m : Nat} [h : LSls K ta pa] : LS K (tAsg (tTup ta) (gTup K 3 (gCons (gName i) (gCons (gName j) (gCons (gName m) gNil))))) (pPar3 i j m pa) where
  run := fun w0 H0 c0 w c H σ ρ Dp D k0 R x e => h.run w0 H0 c0 w c H σ ρ _ _ k0 R x fun vs ss w1 c1 H1 l1 o1 r ap q1 => by
    obtain ⟨a, b, d, rfl, q1⟩ := q1
    match vs, r with
    | [v, u, y], .cons r1 (.cons r2 (.cons r3 .nil)) =>
      refine ⟨by show 3 ≤ sizeLine; decide, fun q nq => ⟨q, [v, u, y], rfl, .inl (.inl upd_same), rfl, v, [u, y], rfl, u, [y], rfl, y, [], rfl, rfl, ?_⟩⟩
      have l2 : Le w1 H1 w1 (upd H1 q (.tup [v, u, y])) := .new nq
      have o2 := o1.new (o := .tup [v, u, y]) nq
      have l12 := l1.trans R.ok l2
      have R1 := (R.mono k0 l12 o2).set (i := i) ⟨l2.rsl o1 r1.1.1, r1.1.2⟩ (fun hs => (R.fresh (r1.2 hs) (r1.1.1.ref hs)).1) fun hs j ys _ g => (R.fresh (r1.2 hs) (r1.1.1.ref hs)).2 j ys g
      have own_i : ∀ (k : Nat) (ys : List WP.D), (ρ.set i (some a))[k]? = some (some (.own ys)) → i = k → (σ.set i (some v))[k]? = some (some v) ∧ a = .own ys := fun k ys g ek => by
        subst ek
        have hi : i < ρ.length := by
          have := (List.getElem?_eq_some_iff.mp g).1
          rwa [List.length_set] at this
        rw [List.getElem?_set_self hi] at g
        cases g
        exact ⟨List.getElem?_set_self (by rw [R.len]; exact hi), rfl⟩
      have R2 := R1.set (i := j) ⟨l2.rsl o1 r2.1.1, r2.1.2⟩ (fun hs => (R.fresh (r2.2 hs) (r2.1.1.ref hs)).1) fun hs k ys nk g => by
        by_cases ek : i = k
        · obtain ⟨g1, rfl⟩ := own_i k ys g ek
          rw [g1]
          intro z
          cases z
          cases b with
          | val d => cases hs
          | own zs => exact ap 0 1 _ ys zs (by decide) rfl rfl rfl rfl
          | obj a C ks ds => cases r2.1.2
        · rw [List.getElem?_set_ne ek] at g ⊢
          exact (R.fresh (r2.2 hs) (r2.1.1.ref hs)).2 k ys g
      refine e.nx w1 c1 _ _ _ (R2.set (i := m) ⟨l2.rsl o1 r3.1.1, r3.1.2⟩ (fun hs => (R.fresh (r3.2 hs) (r3.1.1.ref hs)).1) fun hs k ys nk g => ?_) (l12.ls R.ok) q1
      by_cases ej : j = k
      · subst ej
        have hi : j < (ρ.set i (some a)).length := by
          have := (List.getElem?_eq_some_iff.mp g).1
          rwa [List.length_set] at this
        rw [List.getElem?_set_self hi] at g
        cases g
        rw [List.getElem?_set_self (by rw [List.length_set, R.len]; rwa [List.length_set] at hi)]
        intro z
        cases z
        cases d with
        | val d => cases hs
        | own zs => exact ap 1 2 _ ys zs (by decide) rfl rfl rfl rfl
        | obj a C ks ds => cases r3.1.2
      · rw [List.getElem?_set_ne ej] at g ⊢
        by_cases ek : i = k
        · obtain ⟨g1, rfl⟩ := own_i k ys g ek
          rw [g1]
          intro z
          cases z
          cases d with
          | val d => cases hs
          | own zs => exact ap 0 2 _ ys zs (by decide) rfl rfl rfl rfl
          | obj a C ks ds => cases r3.1.2
        · rw [List.getElem?_set_ne ek] at g ⊢
          exact (R.fresh (r3.2 hs) (r3.1.1.ref hs)).2 k ys g

/-! ### text.find(sign) -/
section
open PySem.W
theorem mt_sfind {X : Cx} : MtR X "str.find" (fun x xs H Q => ∃ a b i rest, x = .str a ∧ xs = [.str b] ∧ Builtin.Str.occurrences a b 0 a.length 1 = i :: rest ∧ Q (.int (i : Nat)) H) := by
  intro pins s σ H x xs v us Q I rx rs h
  obtain ⟨a, b, i, rest, rfl, rfl, ho, q⟩ := h
  obtain ⟨t, rfl⟩ := rx
  cases rs with
  | cons r1 rs =>
    cases rs
    obtain ⟨t2, rfl⟩ := r1
    have g := gives_str_find a b t t2
    rw [ho] at g
    exact call_gives PySem.F.slot_str_find (typeIs_str _ _ _) PySem.F.entry_str_find (PySem.F.args_str_find_2 _ _) g ⟨.int (i : Nat), H, I.tok _, ⟨_, rfl⟩, q⟩
end

/-- a comprehension whose items draw -/
theorem pcomp_i {α : Type} {L : List α} {f : α → D} {pg : PG'} {pe : PX D} {vs : List Nat} {ρ : PSt} {c : Om} {Q : List D → Om → Prop} (hn : L.length ≤ 16777216) (I : Nat → List D → Om → Prop) (h0 : I 0 [] c)
    (hs : ∀ (i : Nat) (e : α) (acc : List D) (c' : Om) (R : D → Om → Prop), L[i]? = some e → I i acc c' → (∀ d c3, I (i + 1) (acc ++ [d]) c3 → R d c3) → pg (f e) (wipeP ρ vs) c' fun ρ2 c2 => pe ρ2 c2 R) (hq : ∀ acc c', acc.length = L.length → I L.length acc c' → Q acc c') : PComp (L.map f) pg pYes pe vs ρ c Q := by
  refine ⟨fun i acc c' => acc.length = i ∧ I i acc c', ⟨rfl, h0⟩, ?_, fun acc c' h => ?_⟩
  · rintro i x acc c' hx ⟨hl, hI⟩
    rw [List.getElem?_map] at hx
    obtain ⟨e, he, rfl⟩ := Option.map_eq_some_iff.mp hx
    refine hs i e acc c' _ he hI fun d c3 h3 => ⟨?_, ?_, h3⟩
    · have := (List.getElem?_eq_some_iff.mp he).1
      show _ < sizeLine
      rw [sizeLine_eq]
      omega
    · rw [List.length_append, hl]
      rfl
  · rw [List.length_map] at h
    exact hq acc c' h.1 h.2

/-! ### a call whose answer is a new list: known to nobody else -/
mutual
/-- no list lies in it -/
def noL : D → Bool
  | .tup xs => noLs xs
  | .lst _ => false
  | .slst _ => false
  | .ins _ _ vs => noLs vs
  | .dic _ vs => noLs vs
  | _ => true
def noLs : List D → Bool
  | [] => true
  | d :: ds => noL d && noLs ds
end
theorem noLs_all : ∀ xs : List D, noLs xs = xs.all noL
  | [] => rfl
  | x :: xs => by
    show (noL x && noLs xs) = _
    rw [noLs_all xs]
    rfl
theorem noLs_map {α : Type} {f : α → D} {xs : List α} (h : ∀ x ∈ xs, noL (f x) = true) : noLs (xs.map f) = true := by
  rw [noLs_all, List.all_map, List.all_eq_true]
  exact h
mutual
theorem rep_z {K : PySem.W.Frag} {S : Addr → Prop} {H H' : Hp} (hh : ∀ b o, H b = some o → (∀ xs, o ≠ .lst xs) → H' b = some o) : ∀ (d : D) (v : V), noL d = true → Rep K S H v d → Rep K S H' v d
  | .non, _, _, h => by cases h; exact .non
  | .bl b, _, _, h => by cases h; exact .bl b
  | .int i, _, _, h => by cases h; exact .int i
  | .str x, _, _, h => by cases h; exact .str x
  | .brk, _, _, h => by cases h with | brk h => exact .brk h
  | .lst _, _, n, _ => by cases n
  | .slst _, _, n, _ => by cases n
  | .tup ds, _, n, h => by
    cases h with
    | tup h r => exact .tup (hh _ _ h fun xs e => by cases e) (reps_z hh ds _ n r)
  | .ins C ks ds, _, n, h => by
    cases h with
    | ins h e r => exact .ins (hh _ _ h fun xs e => by cases e) e (reps_z hh ds _ n r)
  | .dic ks ds, _, n, h => by
    cases h with
    | dic h e r => exact .dic (hh _ _ h fun xs e => by cases e) e (reps_z hh ds _ n r)
theorem reps_z {K : PySem.W.Frag} {S : Addr → Prop} {H H' : Hp} (hh : ∀ b o, H b = some o → (∀ xs, o ≠ .lst xs) → H' b = some o) : ∀ (ds : List D) (vs : List V), noLs ds = true → Reps K S H vs ds → Reps K S H' vs ds
  | [], _, _, h => by cases h; exact .nil
  | d :: ds, _, n, h => by
    have n2 : (noL d && noLs ds) = true := n
    rw [Bool.and_eq_true] at n2
    cases h with
    | cons h r => exact .cons (rep_z hh d _ n2.1 h) (reps_z hh ds _ n2.2 r)
end
def pCalO (n : Nat) (psp : PSp) (pa : PX (List D)) : PX (List D) := fun ρ c Q => pa ρ c fun ds c1 => ds.length = n ∧ noLs ds = true ∧ psp ds c1 fun d c2 => ∃ xs, d = .lst xs ∧ noLs xs = true ∧ Q xs c2
instance {K : PySem.W.Frag} {n : Nat} {psp : PSp} {E : XK} {ta : TA} {pa : PX (List D)} [ha : LA K ta pa] : LF K (tCal (spP K n psp) E ta) (pCalO n psp pa) where
  run := fun w0 H0 c0 w c H σ ρ Qp Q k0 R p k => ha.run w0 H0 c0 w c H σ ρ _ _ k0 R p fun vs ds w1 c1 H1 l1 o1 r1 q1 => by
    obtain ⟨hn, hno, q1⟩ := q1
    have hx : ∀ b o, cut w1.Z H1 b = some o → (∀ xs, o ≠ .lst xs) → cut (fun a => w1.Z a ∨ ∃ xs, H1 a = some (.lst xs)) H1 b = some o := fun b o h hno => by
      obtain ⟨h1, h2⟩ := cut_some h
      rw [cut_at (fun z => ?_), h2]
      rcases z with z | ⟨xs, z⟩
      · exact h1 z
      · rw [h2] at z
        cases z
        exact hno _ rfl
    refine ⟨⟨fun a => w1.Z a ∨ ∃ xs, H1 a = some (.lst xs), w1.S⟩, c1, ds, _, ⟨fun a s => .inl (o1.sz a s), fun a z => ?_, o1.br⟩, reps_z hx ds vs hno r1, hn, q1, fun v d w' c' H' l o r q => ?_⟩
    · rcases z with z | ⟨xs, z⟩
      · exact o1.al a z
      · exact ⟨_, z, fun ys e => by cases e⟩
    · obtain ⟨xs, rfl, hnx, q⟩ := q
      cases r with
      | @lst a us _ ha hr =>
        obtain ⟨nz, ha⟩ := cut_some ha
        have ns : ¬ w'.S a := fun s => nz (o.sz a s)
        have fresh : H1 a = none := by
          cases e : H1 a with
          | none => rfl
          | some u =>
            have e2 := l.ex a u (fun s => ns (l.s a s)) e
            rw [ha] at e2
            cases e2
            exact absurd (l.z a (.inr ⟨_, e⟩)) nz
        have h01 : H a = none := by
          rcases l1.back fresh with s | s
          · exact absurd (l.s a (l1.s a s)) ns
          · exact s
        have L2 : Le w1 H1 ⟨fun b => w1.Z b ∨ (w'.Z b ∧ H1 b = none) ∨ b = a, w'.S⟩ H' := ⟨l.s, fun b z => .inl z, l.s', fun b z => by
          rcases z with z | z | z
          · exact .inl z
          · exact .inr z.2
          · exact .inr (by rw [z]; exact fresh), l.ex⟩
        refine k (.ref a) xs ⟨fun b => w1.Z b ∨ (w'.Z b ∧ H1 b = none) ∨ b = a, w'.S⟩ c' H' (l1.trans R.ok L2) ⟨fun b s => ?_, fun b z => ?_, o.br⟩ ⟨a, us, rfl, .inr (.inr rfl), ns, ha, reps_z (fun b u hb hnl => ?_) xs us hnx hr⟩ (fun b e => by cases e; exact h01) q
        · rcases l.s' b s with z | z
          · exact .inl (o1.sz b z)
          · exact .inr (.inl ⟨o.sz b s, z⟩)
        · rcases z with z | z | z
          · exact o.al b (l.z b (.inl z))
          · exact o.al b z.1
          · exact ⟨_, by rw [z]; exact ha, fun ys e => by cases e⟩
        · obtain ⟨h1, h2⟩ := cut_some hb
          rw [cut_at (fun z => ?_), h2]
          rcases z with z | z | z
          · exact h1 (l.z b (.inl z))
          · exact h1 z.1
          · rw [z, ha] at h2
            cases h2
            exact hnl _ rfl

end
section
variable {P : Program} {w : World} {K : PySem.W.Frag} {mg : Str → Option Value} {base : Heap}
/-! ### sizes, words, stretches, boxes drawn from a bowl, by data -/
theorem lft_cnts {sh : List Int} {l : List Nat} (ha : ∀ c ∈ l, 97 ≤ c ∧ c < 97 + sh.length) (hs : (lft sh l).sum ≤ 0) (h0 : ∀ k, k < sh.length → 0 ≤ (lft sh l).getD k 0) : cnts l sh.length = sh ∧ (l.length : Int) = sh.sum := by
  have e0 : (lft sh l).sum = 0 := by
    have := sumNN (lft sh l) fun x hx => by
      obtain ⟨j, hj, rfl⟩ := memG hx
      exact h0 j (by rw [lft_len] at hj; exact hj)
    omega
  have z : ∀ k, k < sh.length → sh.getD k 0 = (l.count (97 + k) : Nat) := fun k hk => by
    have := sum_zero_all (lft sh l) (fun x hx => by
      obtain ⟨j, hj, rfl⟩ := memG hx
      exact h0 j (by rw [lft_len] at hj; exact hj)) e0 _ (gMem (k := k) (by rw [lft_len]; exact hk))
    rw [lft_get hk] at this
    omega
  refine ⟨?_, by rw [lft_sum ha] at e0; omega⟩
  apply List.ext_getElem?
  intro k
  by_cases hk : k < sh.length
  · rw [cnts_at hk, ← z k hk, List.getElem?_eq_getElem hk, List.getD_eq_getElem?_getD, List.getElem?_eq_getElem hk]
    rfl
  · rw [List.getElem?_eq_none (by rw [cnts_len]; omega), List.getElem?_eq_none (by omega)]
theorem wok_of {sh : List Int} {l : List Nat} (h : ShOk sh) (ha : ∀ c ∈ l, 97 ≤ c ∧ c < 97 + sh.length) (hc : cnts l sh.length = sh) (hl : (l.length : Int) = sh.sum) : WK.WOk l sh.length := by
  refine ⟨h.n1, h.n4, fun k hk => ?_, fun k hk => ?_, fun k hk _ => ?_, fun c hc => ?_, by have := h.sm; omega⟩
  · have := cnts_get hc hk
    have := (h.at hk).1
    omega
  · have := cnts_get hc hk
    have := (h.at hk).2
    omega
  · apply List.count_eq_zero.mpr
    intro hm
    have := ha _ hm
    omega
  · have := ha c hc
    have := h.n4
    omega
def sq__law_sizes : PSp := fun ds c Q => ∃ m b : Int, ds = [.brk, .int m, .int b] ∧ c.n ≤ 2 ^ 58 ∧ 1 ≤ m ∧ m ≤ 4 ∧ 1 ≤ b ∧ b ≤ 240 ∧ ∀ (s : List Int) (c' : Om), c.n ≤ c'.n → c'.n ≤ c.n + 100 → 1 ≤ s.length → (s.length : Int) ≤ m → (∀ x ∈ s, 1 ≤ x ∧ x ≤ b) → Q (dSh s) c'
theorem Q__law_sizes (T : Txt K mg) : Ok P w K mg base CX0 3 "_law_sizes" ["_law_bowl_here", "_law_most", "_law_bits"] (spP K 3 sq__law_sizes) :=
  okP T.f__law_sizes T.g__law_sizes sc__law_sizes (fun _ _ _ _ _ _ us hl => match us, hl with | [_, _, _], _ => rfl) fun f cdv A outer s H E hr => ⟨_, _, (pss_one (ps_ret (pe_callTy (tupleOf K) (by rfl) T.n_tuple (by decide +kernel) (pa_cons (pe_lc (own := [("_law_axis", 3)]) (g := (gName 3)) rfl sc__law_sizes.nd (pi_range1 (by rfl) T.n_range (pa_cons (pe_op op_add pe_int (cal (Q__law_pick (K := K) T) hr (pa_cons (pv 0) (pa_cons (pv 1) pa_nil)))) pa_nil)) (blkOk_by (N := N__law_sizes) (sc := defScope s__law_sizes) (by decide +kernel)) (fun _ _ _ _ _ => (pg_name (i := 3) sc__law_sizes.nd rfl (.inl rfl))) (fun _ _ _ _ _ => pts_nil) (fun _ _ _ _ _ => (pe_op op_add pe_int (cal (Q__law_pick (K := K) T) hr (pa_cons (pv 0) (pa_cons (pv 2) pa_nil)))))) pa_nil)))), inferInstance, fun ds c Q hl h => by
    obtain ⟨m, b, rfl, hc, m0, m4, b0, b1, q⟩ := h
    walk_at "pl"
    refine ⟨m, rfl, by omega, m0, small1000' (by omega), fun k k0 k1 => ?_⟩
    walk_at "pl"
    refine ⟨by omega, by omega, pcomp_i (by rw [List.length_range]; omega) (fun i acc c' => ∃ s : List Int, acc = s.map .int ∧ s.length = i ∧ (∀ x ∈ s, 1 ≤ x ∧ x ≤ b) ∧ c'.n = c.n + 20 + 20 * i) ⟨[], rfl, rfl, (fun x hx => by cases hx), rfl⟩ (fun i e acc c' R he hI hR => ?_) ?_⟩
    · obtain ⟨s, rfl, hs, hx, hn⟩ := hI
      have hi := (List.getElem?_eq_some_iff.mp he).1
      rw [List.length_range] at hi
      walk_at "pl"
      refine ⟨b, rfl, by omega, b0, small1000' (by omega), fun r r0 r1 => ⟨r, rfl, hR _ _ ⟨s ++ [1 + r], by rw [List.map_append]; rfl, by rw [List.length_append, hs]; rfl, fun x hx2 => ?_, by rw [Om.add_n, hn]; omega⟩⟩⟩
      rcases List.mem_append.mp hx2 with h | h
      · exact hx x h
      · rw [List.mem_singleton.mp h]
        omega
    · rintro acc c' hl ⟨s, rfl, hs, hx, hn⟩
      rw [List.length_range] at hs hn
      exact q s c' (by omega) (by omega) (by omega) (by omega) hx⟩
def sq__law_stretch : PSp := fun ds c Q => ∃ b : Nat, ds = [.brk, .int (b : Int)] ∧ c.n ≤ 2 ^ 58 ∧ 1 ≤ b ∧ b ≤ 240 ∧ ∀ (lo hi : Int) (c' : Om), c.n ≤ c'.n → c'.n ≤ c.n + 100 → 0 ≤ lo → lo ≤ hi → hi < 2 ^ b → Q (dPr (lo, hi)) c'
theorem Q__law_stretch (T : Txt K mg) : Ok P w K mg base CX0 3 "_law_stretch" ["_law_bowl_here", "_law_bits"] (spP K 2 sq__law_stretch) :=
  okP T.f__law_stretch T.g__law_stretch sc__law_stretch (fun _ _ _ _ _ _ us hl => match us, hl with | [_, _], _ => rfl) fun f cdv A outer s H E hr => ⟨_, _, (pss_cons (ps_set (i := 2) sc__law_stretch.nd rfl (.inl rfl) (pe_op op_oneShl pe_int (pv 1)))
    (pss_cons (ps_par (i := 3) (j := 4) rfl sc__law_stretch.nd rfl rfl (by decide) rfl rfl (pa_cons (cal (Q__law_pick (K := K) T) hr (pa_cons (pv 0) (pa_cons (pv 2) pa_nil))) (pa_cons (cal (Q__law_pick (K := K) T) hr (pa_cons (pv 0) (pa_cons (pv 2) pa_nil))) pa_nil)) (by rfl))
    (pss_cons (ps_set (i := 5) sc__law_stretch.nd rfl (.inl rfl) (pe_op op_oneShl pe_int (cal (Q__law_pick (K := K) T) hr (pa_cons (pv 0) (pa_cons (pe_op op_add (pv 1) pe_int) pa_nil)))))
    (pss_cons (ps_set (i := 6) sc__law_stretch.nd rfl (.inl rfl) (pe_own (pe_lst (pa_cons (pe_tup (pa_cons (pe_callB min2 (by rfl) T.n_min (by decide +kernel) (pa_cons (pv 3) (pa_cons (pv 4) pa_nil))) (pa_cons (pe_callB max2 (by rfl) T.n_max (by decide +kernel) (pa_cons (pv 3) (pa_cons (pv 4) pa_nil))) pa_nil))) (pa_cons (pe_tup (pa_cons (pv 3) (pa_cons (pv 3) pa_nil))) (pa_cons (pe_tup (pa_cons pe_int (pa_cons (pv 3) pa_nil))) (pa_cons (pe_tup (pa_cons (pv 3) (pa_cons (pe_op op_sub (pv 2) pe_int) pa_nil))) (pa_cons (pe_tup (pa_cons pe_int (pa_cons (pe_op op_sub (pv 2) pe_int) pa_nil))) pa_nil))))))))
    (pss_cons (ps_expr (bmK K PySem.F.plainAttrs_list PySem.F.slot_list_append PySem.F.type_list_append mt_append (pv 6) (pa_cons (pe_tup (pa_cons (pe_op op_mulX (pe_op op_fdivW (pv 3) (pv 5)) (pv 5)) (pa_cons (pe_op op_sub (pe_op op_add (pe_op op_mulX (pe_op op_fdivW (pv 3) (pv 5)) (pv 5)) (pv 5)) pe_int) pa_nil))) pa_nil)))
    (pss_cons (ps_expr (bmK K PySem.F.plainAttrs_list PySem.F.slot_list_append PySem.F.type_list_append mt_append (pv 6) (pa_cons (pe_tup (pa_cons (pe_callB max2 (by rfl) T.n_max (by decide +kernel) (pa_cons pe_int (pa_cons (pe_op op_sub (pe_op op_mulX (pe_op op_fdivW (pv 3) (pv 5)) (pv 5)) pe_int) pa_nil))) (pa_cons (pe_callB max2 (by rfl) T.n_max (by decide +kernel) (pa_cons (pv 3) (pa_cons (pe_op op_mulX (pe_op op_fdivW (pv 3) (pv 5)) (pv 5)) pa_nil))) pa_nil))) pa_nil)))
    (pss_cons (ps_expr (bmK K PySem.F.plainAttrs_list PySem.F.slot_list_append PySem.F.type_list_append mt_append (pv 6) (pa_cons (pe_tup (pa_cons (pe_callB min2 (by rfl) T.n_min (by decide +kernel) (pa_cons (pv 3) (pa_cons (pv 4) pa_nil))) (pa_cons (pe_callB max2 (by rfl) T.n_max (by decide +kernel) (pa_cons (pv 3) (pa_cons (pv 4) pa_nil))) pa_nil))) pa_nil)))
    (pss_one (ps_ret (pe_ix (ixL K) (pv 6) (cal (Q__law_pick (K := K) T) hr (pa_cons (pv 0) (pa_cons (pe_callB (lenU K) (by rfl) T.n_len (by decide +kernel) (pa_cons (pv 6) pa_nil)) pa_nil))) (fun _ _ => rfl))))))))))), inferInstance, fun ds c Q hl h => by
    obtain ⟨b, rfl, hc, b0, b1, q⟩ := h
    have p58 : (2 : Nat) ^ 58 = 288230376151711744 := by decide
    have p59 : (2 : Nat) ^ 59 = 576460752303423488 := by decide
    have tb := pow_pos' b
    have small : (2 : Int) ^ b < 2 ^ (1000 : Nat) := lt1000 (k := 241) (by have := pow_le (a := b + 1) (b := 241) (by omega); rw [Int.pow_succ] at this; omega) (by decide)
    walk_at "pl"
    refine ⟨b, rfl, by omega, _, rfl, by omega, by omega, small, fun d d0 d1 => ⟨_, rfl, by rw [Om.add_n]; omega, by omega, small, fun e e0 e1 => ⟨_, rfl, by rw [Om.add_n, Om.add_n]; omega, by omega, small1000' (by omega), fun p p0 p1 => ?_⟩⟩⟩
    obtain ⟨p, rfl⟩ : ∃ n : Nat, p = n := ⟨p.toNat, by omega⟩
    walk_at "pl"
    have pb : (2 : Int) ^ b = 2 ^ (b - p) * 2 ^ p := by rw [← Int.pow_add]; congr 1; omega
    have pp := pow_pos' p
    have x0 : d / 2 ^ p * 2 ^ p ≤ d := Int.ediv_mul_le d (by omega)
    have x2 : 0 ≤ d / 2 ^ p * 2 ^ p := Int.mul_nonneg (Int.ediv_nonneg d0 (by omega)) (by omega)
    have x1 : d / 2 ^ p * 2 ^ p + 2 ^ p ≤ 2 ^ b := by
      have h1 : d / 2 ^ p < 2 ^ (b - p) := Int.ediv_lt_of_lt_mul pp (by rw [← pb]; exact d1)
      have h2 : (d / 2 ^ p + 1) * 2 ^ p ≤ 2 ^ (b - p) * 2 ^ p := Int.mul_le_mul_of_nonneg_right (by omega) (by omega)
      rw [Int.add_mul, Int.one_mul, ← pb] at h2
      exact h2
    have cd : CDivW d (2 ^ p) := cdiv_of (k := 241) (by omega) (Int.lt_of_le_of_lt (pow_le (b := 240) (by omega)) (by decide +kernel)) (by decide)
    have mx : CMulX (d / 2 ^ p) (2 ^ p) := mulx_of (a := 241) (b := 241) (Int.ediv_nonneg d0 (by omega)) (by
      have h3 : d / 2 ^ p ≤ d := Int.ediv_le_self _ d0
      have h4 := pow_le (a := b) (b := 241) (by omega)
      omega) (by omega) (Int.lt_of_le_of_lt (pow_le (b := 240) (by omega)) (by decide +kernel)) (by decide)
    refine ⟨p, rfl, by omega, cd, mx, cd, mx, by decide, cd, mx, cd, mx, by decide, by decide, 8, rfl, by simp only [Om.add_n]; omega, by decide, small1000' (by decide), fun r r0 r1 => ?_⟩
    walk_at "pl"
    generalize d / 2 ^ p * 2 ^ p = x at *
    have fin : ∀ lo hi : Int, 0 ≤ lo → lo ≤ hi → hi < 2 ^ b → Q (dPr (lo, hi)) ((((c.add 20).add 20).add 20).add 20) := fun lo hi h1 h2 h3 => q lo hi _ (by simp only [Om.add_n]; omega) (by simp only [Om.add_n]; omega) h1 h2 h3
    rcases (show r = 0 ∨ r = 1 ∨ r = 2 ∨ r = 3 ∨ r = 4 ∨ r = 5 ∨ r = 6 ∨ r = 7 by omega) with rfl | rfl | rfl | rfl | rfl | rfl | rfl | rfl
    · exact ⟨_, at_nat (j := 0) rfl rfl, fin (if e < d then e else d) (if e > d then e else d) (by split <;> omega) (by split <;> split <;> omega) (by split <;> omega)⟩
    · exact ⟨_, at_nat (j := 1) rfl rfl, fin d d (by omega) (by omega) (by omega)⟩
    · exact ⟨_, at_nat (j := 2) rfl rfl, fin 0 d (by omega) (by omega) (by omega)⟩
    · exact ⟨_, at_nat (j := 3) rfl rfl, fin d (2 ^ b - 1) (by omega) (by omega) (by omega)⟩
    · exact ⟨_, at_nat (j := 4) rfl rfl, fin 0 (2 ^ b - 1) (by omega) (by omega) (by omega)⟩
    · exact ⟨_, at_nat (j := 5) rfl rfl, fin x (x + 2 ^ p - 1) (by omega) (by omega) (by omega)⟩
    · exact ⟨_, at_nat (j := 6) rfl rfl, fin (if x - 1 > 0 then x - 1 else 0) (if x > d then x else d) (by split <;> omega) (by split <;> split <;> omega) (by split <;> omega)⟩
    · exact ⟨_, at_nat (j := 7) rfl rfl, fin (if e < d then e else d) (if e > d then e else d) (by split <;> omega) (by split <;> split <;> omega) (by split <;> omega)⟩⟩
def sq__law_box : PSp := fun ds c Q => ∃ s : List Int, ds = [.brk, dSh s] ∧ c.n ≤ 2 ^ 57 ∧ s.length ≤ 4 ∧ (∀ x ∈ s, 1 ≤ x ∧ x ≤ 240) ∧ ∀ (bx : List (Int × Int)) (c' : Om), c.n ≤ c'.n → c'.n ≤ c.n + 400 → BoxSh s bx → Q (dBox bx) c'
theorem Q__law_box (T : Txt K mg) : Ok P w K mg base CX0 4 "_law_box" ["_law_bowl_here", "_law_sizes_here"] (spP K 2 sq__law_box) :=
  okP T.f__law_box T.g__law_box sc__law_box (fun _ _ _ _ _ _ us hl => match us, hl with | [_, _], _ => rfl) fun f cdv A outer s H E hr => ⟨_, _, (pss_one (ps_ret (pe_callTy (tupleOf K) (by rfl) T.n_tuple (by decide +kernel) (pa_cons (pe_lc (own := [("_law_bits", 2)]) (g := (gName 2)) rfl sc__law_box.nd (piT K (pv 1)) (blkOk_by (N := N__law_box) (sc := defScope s__law_box) (by decide +kernel)) (fun _ _ _ _ _ => (pg_name (i := 2) sc__law_box.nd rfl (.inl rfl))) (fun _ _ _ _ _ => pts_nil) (fun _ _ _ _ _ => (cal (Q__law_stretch (K := K) T) hr (pa_cons (pv 0) (pa_cons (pv 2) pa_nil))))) pa_nil)))), inferInstance, fun ds c Q hl h => by
    obtain ⟨s, rfl, hc, h4, hx, q⟩ := h
    walk_at "pl"
    refine pcomp_i (by omega) (fun i acc c' => ∃ bx : List (Int × Int), acc = bx.map dPr ∧ bx.length = i ∧ (∀ k, k < i → 0 ≤ (bx.getD k (0, 0)).1 ∧ (bx.getD k (0, 0)).1 ≤ (bx.getD k (0, 0)).2 ∧ (bx.getD k (0, 0)).2 < 2 ^ (s.getD k 0).toNat) ∧ c.n ≤ c'.n ∧ c'.n ≤ c.n + 100 * i) ⟨[], rfl, rfl, (fun k hk => absurd hk (Nat.not_lt_zero _)), Nat.le_refl _, Nat.le_refl _⟩ (fun i e acc c' R he hI hR => ?_) ?_
    · obtain ⟨bx, rfl, hb, hk, n0, n1⟩ := hI
      have hi := (List.getElem?_eq_some_iff.mp he).1
      obtain ⟨e0, e1⟩ := hx e (List.mem_of_getElem? he)
      obtain ⟨b, rfl⟩ : ∃ n : Nat, e = n := ⟨e.toNat, by omega⟩
      have p57 : (2 : Nat) ^ 57 = 144115188075855872 := by decide
      have p58 : (2 : Nat) ^ 58 = 288230376151711744 := by decide
      walk_at "pl"
      refine ⟨b, rfl, by omega, by omega, by omega, fun lo hi c2 m0 m1 l0 l1 l2 => hR _ _ ⟨bx ++ [(lo, hi)], by rw [List.map_append]; rfl, by rw [List.length_append, hb]; rfl, fun k hk2 => ?_, by omega, by omega⟩⟩
      by_cases ek : k = i
      · subst ek
        rw [getP_snoc_eq hb.symm, List.getD_eq_getElem?_getD, he]
        exact ⟨l0, l1, l2⟩
      · rw [getP_snoc_lt (by omega)]
        exact hk k (by omega)
    · rintro acc c' hl ⟨bx, rfl, hb, hk, n0, n1⟩
      exact q bx c' n0 (by omega) ⟨hb, fun k h => (hk k h).1, fun k h => (hk k h).2.1, fun k h => (hk k h).2.2⟩⟩
def sq__law_word : PSp := fun ds c Q => ∃ (s : List Int) (S : D), ds = [.brk, S] ∧ (S = dSh s ∨ S = .lst (s.map .int)) ∧ c.n ≤ 2 ^ 58 ∧ 1 ≤ s.length ∧ s.length ≤ 4 ∧ (∀ x ∈ s, 0 ≤ x) ∧ s.sum ≤ 240 ∧ ∀ (l : List Nat) (c' : Om), c.n ≤ c'.n → c'.n ≤ c.n + 5000 → (∀ x ∈ l, 97 ≤ x ∧ x < 97 + s.length) → cnts l s.length = s → (l.length : Int) = s.sum → Q (.str (sg l)) c'
theorem Q__law_word (T : Txt K mg) : Ok P w K mg base CX0 3 "_law_word" ["_law_bowl_here", "_law_sizes_here"] (spP K 2 sq__law_word) :=
  okP T.f__law_word T.g__law_word sc__law_word (fun _ _ _ _ _ _ us hl => match us, hl with | [_, _], _ => rfl) fun f cdv A outer s H E hr => ⟨_, _, (pss_cons (ps_asg (pe_tup (pa_cons (pe_own (pe_callTy (listOf K) (by rfl) T.n_list (by decide +kernel) (pa_cons (pv 1) pa_nil))) (pa_cons pe_str (pa_cons (cal (Q__law_pick (K := K) T) hr (pa_cons (pv 0) (pa_cons pe_int pa_nil))) pa_nil)))) (pgTup K (n := 3) (pgs_cons (pg_name (i := 2) sc__law_word.nd rfl (.inr rfl)) (pgs_cons (pg_name (i := 3) sc__law_word.nd rfl (.inl rfl)) (pgs_cons (pg_name (i := 4) sc__law_word.nd rfl (.inl rfl)) pgs_nil)))))
    (pss_cons (ps_while PassesOwn.never (pt_cmpR op_gt (pe_callB (sumL K) (by rfl) T.n_sum (by decide +kernel) (pa_cons (pv 2) pa_nil)) pe_int (nomark _)) (pss_cons (ps_setLc (i := 6) (own := [("_law_axis", 5)]) (g := (gName 5)) rfl sc__law_word.nd rfl rfl (sw_true rfl rfl rfl (by decide +kernel)) (pi_range1 (by rfl) T.n_range (pa_cons (pe_callB (lenU K) (by rfl) T.n_len (by decide +kernel) (pa_cons (pv 2) pa_nil)) pa_nil)) (blkOk_by (N := N__law_word) (sc := defScope s__law_word) (by decide +kernel)) (fun _ _ _ _ _ => (pg_name (i := 5) sc__law_word.nd rfl (.inl rfl))) (fun _ _ _ _ _ => (pts_one (pt_cmpR op_gt (pe_ix (ixL K) (pv 2) (pv 5) (fun _ _ => rfl)) pe_int (nomark _)))) (fun _ _ _ _ _ => (pv 5)))
    (pss_consB (ps_if (pt_cmpR op_eq (pv 4) pe_int (nomark _)) (pss_one (ps_set (i := 5) sc__law_word.nd rfl (.inl rfl) (pe_ix (ixL K) (pv 6) pe_int (fun _ _ => rfl)))) (pss_one (ps_if (pt_cmpR op_eq (pv 4) pe_int (nomark _)) (pss_one (ps_set (i := 5) sc__law_word.nd rfl (.inl rfl) (pe_ix (ixL K) (pv 6) (pe_un un_neg pe_int) (fun _ _ => rfl)))) (pss_one (ps_if (pt_cmpR op_eq (pv 4) pe_int (nomark _)) (pss_one (ps_set (i := 5) sc__law_word.nd rfl (.inl rfl) (pe_ix (ixL K) (pe_lc (own := [("_law_one", 7)]) (g := (gName 7)) rfl sc__law_word.nd (piL K (pv 6)) (blkOk_by (N := N__law_word) (sc := defScope s__law_word) (by decide +kernel)) (fun _ _ _ _ _ => (pg_name (i := 7) sc__law_word.nd rfl (.inl rfl))) (fun _ _ _ _ _ => (pts_one (pt_cmpR op_eq (pe_ix (ixL K) (pv 2) (pv 7) (fun _ _ => rfl)) (pe_callB (maxL K) (by rfl) T.n_max (by decide +kernel) (pa_cons (pv 2) pa_nil)) (nomark _)))) (fun _ _ _ _ _ => (pv 7))) pe_int (fun _ _ => rfl)))) (pss_one (ps_set (i := 5) sc__law_word.nd rfl (.inl rfl) (pe_ix (ixL K) (pv 6) (cal (Q__law_pick (K := K) T) hr (pa_cons (pv 0) (pa_cons (pe_callB (lenU K) (by rfl) T.n_len (by decide +kernel) (pa_cons (pv 6) pa_nil)) pa_nil))) (fun _ _ => rfl)))))))))
    (pss_cons (ps_asg (pe_op op_sub (pe_ix (ixL K) (pv 2) (pv 5) (fun _ _ => rfl)) pe_int) (pg_sub (pv 2) (pv 5) set_list))
    (pss_one (ps_set (i := 3) sc__law_word.nd rfl (.inl rfl) (pe_op op_add_str (pv 3) (pe_ix ix_str pe_str (pv 5) (fun _ _ => rfl)))))))))
    (pss_one (ps_ret (pv 3))))), inferInstance, fun ds c Q hl h => by
    obtain ⟨s, S, rfl, hS, hc, n1, n4, h0, h240, q⟩ := h
    walk_at "pl"
    have p58 : (2 : Nat) ^ 58 = 288230376151711744 := by decide
    have p59 : (2 : Nat) ^ 59 = 576460752303423488 := by decide
    refine ⟨s.map .int, by rcases hS with rfl | rfl <;> rfl, 5, rfl, by omega, by decide, small1000' (by decide), fun way w0 w1 => ?_⟩
    walk_at "pl"
    refine ⟨fun m ρ c' => ∃ (l : List Nat) (y5 y6 y7 : Option Sl), ρ = [some (Sl.val D.brk), some (Sl.val S), some (Sl.own ((lft s l).map .int)), some (Sl.val (D.str (sg l))), some (Sl.val (.int way)), y5, y6, y7] ∧ c.n ≤ c'.n ∧ c'.n ≤ c.n + 20 + 20 * l.length ∧ (∀ x ∈ l, 97 ≤ x ∧ x < 97 + s.length) ∧ (∀ k, k < s.length → 0 ≤ (lft s l).getD k 0) ∧ m = (s.sum - l.length).toNat,
      ⟨_, [], none, none, none, by rw [lft_nil]; rfl, by rw [Om.add_n]; omega, by rw [Om.add_n]; exact Nat.le_refl _, (fun x hx => by cases hx), (fun k hk => by rw [lft_nil]; exact h0 _ (gMem hk)), rfl⟩, ?_⟩
    rintro m ρ c' ⟨l, y5, y6, y7, rfl, n0, n1, ha, hk, rfl⟩
    have hsl := lft_sum ha
    have hsnn := sumNN (lft s l) fun x hx => by
      obtain ⟨j, hj, rfl⟩ := memG hx
      exact hk j (by rw [lft_len] at hj; exact hj)
    walk_at "pl"
    refine ⟨lft s l, rfl, if_d (fun e => ?_) (fun e => ?_)⟩
    · rw [lft_len]
      obtain ⟨kp, hkp, hpos⟩ := sum_pos_ex (lft s l) (fun x hx => by
        obtain ⟨j, hj, rfl⟩ := memG hx
        exact hk j (by rw [lft_len] at hj; exact hj)) e
      rw [lft_len] at hkp
      refine ⟨by omega, by omega, pcomp_p (L := List.range s.length) (g := fun k : Nat => D.int (k : Int)) (fun k => decide (0 < (lft s l).getD k 0)) (by rw [List.length_range]; omega) (fun i k R N hik hR hN => ?_) ?_⟩
      · have hi := (List.getElem?_eq_some_iff.mp hik).1
        rw [List.length_range] at hi
        rw [List.getElem?_range hi] at hik
        cases hik
        walk_at "pl"
        rw [Int.zero_add]
        refine ⟨_, at_int (by rw [lft_len]; exact hi), _, rfl, ?_⟩
        cases e2 : decide (0 < (lft s l).getD i 0) with
        | true => exact if_t rfl (hR e2)
        | false => exact if_f rfl (hN e2)
      · generalize hax : (List.range s.length).filter (fun k => decide (0 < (lft s l).getD k 0)) = ax
        have hmem : ∀ k, k ∈ ax ↔ k < s.length ∧ 0 < (lft s l).getD k 0 := fun k => by
          rw [← hax, List.mem_filter, List.mem_range, decide_eq_true_iff]
        have hal : ax.length ≤ s.length := by
          rw [← hax]
          have := List.length_filter_le (fun k => decide (0 < (lft s l).getD k 0)) (List.range s.length)
          rwa [List.length_range] at this
        have ha0 : 0 < ax.length := List.length_pos_of_mem ((hmem kp).mpr ⟨hkp, hpos⟩)
        refine pseq_by (fun ρ' c2 => ∃ (k : Nat) (y6 y7 : Option Sl), k < s.length ∧ 0 < (lft s l).getD k 0 ∧ ρ' = [some (Sl.val D.brk), some (Sl.val S), some (Sl.own ((lft s l).map .int)), some (Sl.val (D.str (sg l))), some (Sl.val (.int way)), some (.val (.int (k : Int))), y6, y7] ∧ c'.n ≤ c2.n ∧ c2.n ≤ c'.n + 20) ?_ ?_
        · rintro ρ' c2 ⟨k, y6, y7, k1, k2, rfl, m0, m1⟩
          walk_at "pl"
          have hk4 : k < 4 := by omega
          have hkl : k < (lft s l).length := by rw [lft_len]; exact k1
          refine ⟨_, at_int hkl, _, rfl, k, ixN_nat hkl, by decide, _, at_nat rfl (by rw [Array.getElem?_toList]; exact abcd_get hk4), by show l.length + 1 ≤ 16777216; omega, (s.sum - (l.length : Int)).toNat - 1, by omega, l ++ [97 + k], by rw [lft_snoc k1, List.map_set], sg_app _ _, by omega, by rw [List.length_append]; show _ ≤ c.n + 20 + 20 * (l.length + 1); omega, fun x hx => ?_, fun j hj => ?_, by rw [List.length_append]; show _ = (s.sum - ((l.length + 1 : Nat) : Int)).toNat; omega⟩
          · rcases List.mem_append.mp hx with h | h
            · exact ha x h
            · rw [List.mem_singleton.mp h]
              omega
          · rw [lft_snoc k1]
            by_cases ek : j = k
            · rw [ek, List.getD_eq_getElem?_getD, List.getElem?_set_self hkl]
              show 0 ≤ (lft s l).getD k 0 - 1
              omega
            · rw [List.getD_eq_getElem?_getD, List.getElem?_set_ne (Ne.symm ek), ← List.getD_eq_getElem?_getD]
              exact hk j hj
        · intro kk hkk
          have done : ∀ (i : Nat) (y6 y7 : Option Sl) (c2 : Om), i ∈ ax → c'.n ≤ c2.n → c2.n ≤ c'.n + 20 → kk [some (Sl.val D.brk), some (Sl.val S), some (Sl.own ((lft s l).map .int)), some (Sl.val (D.str (sg l))), some (Sl.val (.int way)), some (.val (.int (i : Int))), y6, y7] c2 := fun i y6 y7 c2 hi m0 m1 => hkk _ _ ⟨i, y6, y7, ((hmem i).mp hi).1, ((hmem i).mp hi).2, rfl, m0, m1⟩
          walk_at "pl"
          refine if_d (fun _ => ?_) fun _ => if_d (fun _ => ?_) fun _ => if_d (fun _ => ?_) fun _ => ?_
          · exact ⟨_, at_map (fun k : Nat => D.int (k : Int)) rfl (List.getElem?_eq_getElem ha0), done _ _ _ _ (List.getElem_mem ha0) (Nat.le_refl _) (Nat.le_add_right _ _)⟩
          · have hl1 : ax.length - 1 < ax.length := by omega
            refine ⟨.int ((ax[ax.length - 1] : Nat) : Int), ?_, done _ _ _ _ (List.getElem_mem hl1) (Nat.le_refl _) (Nat.le_add_right _ _)⟩
            unfold atI ixN
            rw [List.length_map, if_neg (by decide), if_pos (by omega)]
            show (ax.map fun k : Nat => D.int (k : Int))[(-1 + (ax.length : Int)).toNat]? = _
            rw [show (-1 + (ax.length : Int)).toNat = ax.length - 1 by omega, List.getElem?_map, List.getElem?_eq_getElem hl1]
            rfl
          · obtain ⟨mx, hm1, hm2⟩ : ∃ m, m ∈ lft s l ∧ ∀ y ∈ lft s l, y ≤ m := by
              have hne : lft s l ≠ [] := fun z => by
                rw [z] at e
                exact absurd e (by decide)
              refine ⟨(lft s l).max hne, List.max_mem hne, fun y hy => List.le_max_of_mem hy⟩
            obtain ⟨km, hkm, rfl⟩ := memG hm1
            rw [lft_len] at hkm
            have hmx0 : 0 < (lft s l).getD km 0 := by
              have := hm2 _ (gMem (xs := lft s l) (k := kp) (by rw [lft_len]; exact hkp))
              omega
            refine pcomp_p (g := fun k : Nat => D.int (k : Int)) (fun k => decide ((lft s l).getD k 0 = (lft s l).getD km 0)) (by omega) (fun i k R N hik hR hN => ?_) ?_
            · have hk1 := ((hmem k).mp (List.mem_of_getElem? hik)).1
              walk_at "pl"
              refine ⟨_, at_int (by rw [lft_len]; exact hk1), lft s l, rfl, by rw [lft_len]; omega, fun m hm hmle => ?_⟩
              have em : m = (lft s l).getD km 0 := by
                have h1 := hmle _ hm1
                have h2 := hm2 m hm
                omega
              subst em
              refine ⟨rfl, ?_⟩
              cases e2 : decide ((lft s l).getD k 0 = (lft s l).getD km 0) with
              | true => exact if_t (decide_eq_true (congrArg V.int (of_decide_eq_true e2))) (hR e2)
              | false => exact if_f (decide_eq_false fun z => of_decide_eq_false e2 (V.int.inj z)) (hN e2)
            · have hkin : km ∈ ax.filter fun k => decide ((lft s l).getD k 0 = (lft s l).getD km 0) := List.mem_filter.mpr ⟨(hmem km).mpr ⟨hkm, hmx0⟩, decide_eq_true rfl⟩
              have h0 : 0 < (ax.filter fun k => decide ((lft s l).getD k 0 = (lft s l).getD km 0)).length := List.length_pos_of_mem hkin
              exact ⟨_, at_map (fun k : Nat => D.int (k : Int)) rfl (List.getElem?_eq_getElem h0), done _ _ _ _ (List.mem_filter.mp (List.getElem_mem h0)).1 (Nat.le_refl _) (Nat.le_add_right _ _)⟩
          · refine ⟨(ax.length : Int), rfl, by omega, by omega, small1000' (by omega), fun r r0 r1 => ?_⟩
            have hr : r.toNat < ax.length := by omega
            exact ⟨r, rfl, _, at_map (fun k : Nat => D.int (k : Int)) (by omega) (List.getElem?_eq_getElem hr), done _ _ _ _ (List.getElem_mem hr) (by rw [Om.add_n]; omega) (by rw [Om.add_n]; omega)⟩
    · have hz := lft_cnts ha (by omega) hk
      exact q l c' (by omega) (by omega) ha hz.1 hz.2⟩

end
section
variable {P : Program} {w : World} {K : PySem.W.Frag} {mg : Str → Option Value} {base : Heap}
/-! ### texts of weaves: flat ones -/
def sp_read_times : Sp := fun vs H Q _ => ∃ (a ds c : List Nat) (t : Nat), vs = [.str (sg (a ++ ds ++ c)), .int (a.length : Int)] ∧ (a ++ ds ++ c).length ≤ 10000 ∧ DsOk t ds ∧ (∀ d, c[0]? = some d → ¬ IsDig d) ∧
  ∀ p, H p = none → Q (.ref p) (upd H p (.tup [.int (t : Int), .int ((a.length + ds.length : Nat) : Int)]))
theorem O_read_times (T : Txt K mg) : Ok P w K mg base CX0 1 "read_times" ["text", "at"] sp_read_times :=
  Ok.mk0 T.f_read_times T.g_read_times sc_read_times (by rintro vs H Q E ⟨_, _, _, _, rfl, _⟩; rfl) (fun _ _ _ _ _ _ us hl => match us, hl with | [_, _], _ => rfl) (fun f cdv A outer s H vs Q E hr h => by
    obtain ⟨a, ds, c, t, rfl, hl, hd, hc, q⟩ := h
    refine ⟨_, (pss_cons (ps_set (i := 2) sc_read_times.nd rfl (.inl rfl) (pv 1))
    (pss_cons (ps_while PassesOwn.never (PW.pt (pw_and (pt_cmpR op_lt (pv 2) (pe_callB (lenU K) (by rfl) T.n_len (by decide +kernel) (pa_cons (pv 0) pa_nil)) (nomark _)) (pw_and1 (pt_cmpR op_in_sign (pe_ix ix_str (pv 0) (pv 2) (fun _ _ => rfl)) (pe_gstr T.c_DIGITS) rfl)))) (pss_one (ps_set (i := 2) sc_read_times.nd rfl (.inl rfl) (pe_op op_add (pv 2) pe_int))))
    (pss_cons (ps_if (pt_cmpR op_eq (pv 2) (pv 1) (nomark _)) (pss_one (ps_ret (pe_tup (pa_cons pe_int (pa_cons (pv 1) pa_nil))))) pss_nil)
    (pss_cons (ps_if (PW.pt (pw_or (pt_cmpR op_eq (pe_ix ix_str (pv 0) (pv 1) (fun _ _ => rfl)) pe_str (nomark _)) (pw_or (pt_cmpR op_gt (pe_op op_sub (pv 2) (pv 1)) pe_int (nomark _)) (pw_or1 (pt_not (pt_chain op_le op_le pe_int (pe_callTy call_int_str (by rfl) T.n_int (by decide +kernel) (pa_cons (pe_slice sl_str (pv 0) (po_some (pv 1)) (po_some (pv 2))) pa_nil)) (pe_gint T.c_MOST_TIMES))))))) (pss_one ps_never) pss_nil)
    (pss_one (ps_ret (pe_tup (pa_cons (pe_callTy call_int_str (by rfl) T.n_int (by decide +kernel) (pa_cons (pe_slice sl_str (pv 0) (po_some (pv 1)) (po_some (pv 2))) pa_nil)) (pa_cons (pv 2) pa_nil))))))))), ?_⟩
    walk_at "vc"
    refine ⟨fun m σ' H' => ∃ j : Nat, j ≤ ds.length ∧ m = ds.length - j ∧ σ' = [some (.str (sg (a ++ ds ++ c))), some (.int (a.length : Int)), some (.int ((a.length + j : Nat) : Int))] ∧ H' = H, ⟨ds.length, 0, Nat.zero_le _, rfl, rfl, rfl⟩, ?_⟩
    rintro m σ' H' ⟨j, hj, rfl, rfl, rfl⟩
    walk_at "vc"
    have L : (a ++ ds ++ c).length = a.length + ds.length + c.length := by rw [List.length_append, List.length_append]
    have zl : (sg (a ++ ds ++ c)).length ≤ sizeLine := le_size (by rw [sg_len]; omega)
    refine ⟨zl, ?_⟩
    by_cases hje : j < ds.length
    · have g : (a ++ ds ++ c)[a.length + j]? = some ds[j] := by
        rw [List.append_assoc, List.getElem?_append_right (by omega), Nat.add_sub_cancel_left, List.getElem?_append_left hje, List.getElem?_eq_getElem hje]
      refine if_t (decide_eq_true (by rw [sg_len]; omega)) ⟨zl, _, at_nat rfl (by rw [sg_cps]; exact g), _, rfl, if_t (decide_eq_true ((dig_iff _).mpr (hd.dig _ (List.getElem_mem _)))) ⟨_, fun _ _ h => h, ds.length - (j + 1), by omega, j + 1, by omega, rfl, rfl, rfl⟩⟩
    · have ej : j = ds.length := by omega
      subst ej
      refine ite_t ?_ fun hc1 tl => ?_
      · refine if_d (fun e => ?_) (fun e => ?_)
        · have e0 : ds = [] := List.length_eq_zero_iff.mp (by omega)
          have e1 := hd.one e0
          subst e0 e1
          exact ⟨le_size (by decide), fun p np => q p np⟩
        · have hne : ds ≠ [] := fun z => e (by rw [z]; rfl)
          obtain ⟨n1, n2, n3, n4⟩ := hd.num hne
          have hp : 0 < ds.length := List.length_pos_iff.mpr hne
          have g : (a ++ ds ++ c)[a.length]? = some ds[0] := by
            rw [List.append_assoc, List.getElem?_append_right (by omega), Nat.sub_self, List.getElem?_append_left hp, List.getElem?_eq_getElem hp]
          have h48 : ds[0] ≠ 48 := fun z => n4 (by rw [List.getElem?_eq_getElem hp, z])
          have h3 := hd.len
          rw [cut_sg a ds c rfl rfl]
          have l6 : (sg ds).length ≤ 640 := by
            rw [sg_len]
            omega
          refine ⟨zl, _, at_nat rfl (by rw [sg_cps]; exact g), if_d (fun z => ?_) fun _ => if_d (fun z => by omega) fun _ => ⟨zl, _, n1, l6, if_d (fun _ => if_nd (fun z => by omega) fun _ => ⟨zl, _, n1, l6, le_size (by decide), fun p np => q p np⟩) (fun z => by omega)⟩⟩
          exact h48 (sign_eq.mp (z.trans (show Str.ofString "0" = ⟨#[48]⟩ by decide +kernel)))
      · rw [decide_eq_true_eq, sg_len] at hc1
        have hcl : 0 < c.length := by omega
        have g : (a ++ ds ++ c)[a.length + ds.length]? = some c[0] := by
          rw [List.getElem?_append_right (by rw [List.length_append]; omega), List.length_append, Nat.sub_self, List.getElem?_eq_getElem hcl]
        refine ⟨zl, _, at_nat rfl (by rw [sg_cps]; exact g), _, rfl, if_f (decide_eq_false fun z => ?_) tl⟩
        exact hc _ (List.getElem?_eq_getElem hcl) ((dig_iff _).mp z))

/-! ### texts of weaves with brackets, by data -/
def sq_read_times : PSp := fun ds c Q => ∃ (a xs r : List Nat) (t : Nat), ds = [.str (sg (a ++ xs ++ r)), .int (a.length : Int)] ∧ (a ++ xs ++ r).length ≤ 10000 ∧ DsOk t xs ∧ (∀ d, r[0]? = some d → ¬ IsDig d) ∧ Q (.tup [.int (t : Int), .int ((a.length + xs.length : Nat) : Int)]) c
theorem Q_read_times (T : Txt K mg) : Ok P w K mg base CX0 1 "read_times" ["text", "at"] (spP K 2 sq_read_times) :=
  Ok.imp (O_read_times T) fun vs H Q E h => by
    obtain ⟨w1, c, ds, Qp, o, r, _, ⟨a, xs, e, t, rfl, h1, h2, h3, q⟩, kk⟩ := h
    obtain ⟨v, u, rfl, r1, r2⟩ := RPs.two r
    rw [RP.str r1, RP.int r2]
    refine ⟨a, xs, e, t, rfl, h1, h2, h3, fun p np => ?_⟩
    have s := same_new (o := .tup [.int (t : Int), .int ((a.length + xs.length : Nat) : Int)]) np
    exact kk _ _ w1 c _ (same_le s) (same_ok o s) ((same_ok o s).tupI (ns := [(t : Int), ((a.length + xs.length : Nat) : Int)]) upd_same) q
instance never_le : LE K (fun _ _ _ => False) (fun _ _ _ => False) where
  run := fun _ _ _ _ _ _ _ _ _ _ _ _ p _ => False.elim p
def sq_read_parts (h : Nat) : PSp := fun ds c Q => ∃ (a : List Nat) (p : Pts) (r : List Nat) (d : Nat), ds = [.str (sg (a ++ p.tx ++ r)), .int (a.length : Int), .int (d : Int)] ∧ p.ok ∧ p.ht < h ∧ p.ht + d ≤ 8 ∧ (r = [] ∨ r[0]? = some 41) ∧ (a ++ p.tx ++ r).length ≤ 10000 ∧ Q (.tup [.tup p.da, .int ((a.length + p.tx.length : Nat) : Int)]) c
theorem Q_read_parts (T : Txt K mg) : ∀ h, Ok P w K mg base CX0 (h + 2) "read_parts" ["text", "at", "depth"] (spP K 3 (sq_read_parts h))
  | 0 => okP T.f_read_parts T.g_read_parts sc_read_parts (fun _ _ _ _ _ _ us hl => match us, hl with | [_, _, _], _ => rfl) fun f cdv A outer s H E hr => ⟨_, _, (pss_cons (ps_set (i := 3) sc_read_parts.nd rfl (.inl rfl) (pe_own (pe_lst pa_nil)))
    (pss_cons (ps_while PassesOwn.never (PW.pt (pw_and (pt_cmpR op_lt (pv 1) (pe_callB (lenU K) (by rfl) T.n_len (by decide +kernel) (pa_cons (pv 0) pa_nil)) (nomark _)) (pw_and1 (pt_cmpR op_ne (pe_ix ix_str (pv 0) (pv 1) (fun _ _ => rfl)) pe_str (nomark _))))) (pss_cons (ps_set (i := 4) sc_read_parts.nd rfl (.inl rfl) (pe_ix ix_str (pv 0) (pv 1) (fun _ _ => rfl)))
    (pss_cons (ps_if (pt_cmpR op_eq (pv 4) pe_str (nomark _)) pss_never (pss_one (ps_if (pt_cmpR op_notIn_sign (pv 4) (pe_gstr T.c_AXES) rfl) (pss_one ps_never) pss_nil)))
    (pss_cons (ps_asg (cal (Q_read_times (K := K) T) hr (pa_cons (pv 0) (pa_cons (pe_op op_add (pv 1) pe_int) pa_nil))) (pgTup K (n := 2) (pgs_cons (pg_name (i := 6) sc_read_parts.nd rfl (.inl rfl)) (pgs_cons (pg_name (i := 1) sc_read_parts.nd rfl (.inl rfl)) pgs_nil))))
    (pss_one (ps_expr (bmK K PySem.F.plainAttrs_list PySem.F.slot_list_append PySem.F.type_list_append mt_append (pv 3) (pa_cons (pe_tup (pa_cons (pv 4) (pa_cons (pv 6) pa_nil))) pa_nil))))))))
    (pss_one (ps_ret (pe_tup (pa_cons (pe_callTy (tupleOf K) (by rfl) T.n_tuple (by decide +kernel) (pa_cons (pv 3) pa_nil)) (pa_cons (pv 1) pa_nil))))))), inferInstance, fun ds c Q hl h => by
    obtain ⟨_, _, _, _, _, _, h, _⟩ := h
    exact absurd h (Nat.not_lt_zero _)⟩
  | h + 1 => by
    have IH := Q_read_parts T h
    exact okP T.f_read_parts T.g_read_parts sc_read_parts (fun _ _ _ _ _ _ us hl => match us, hl with | [_, _, _], _ => rfl) fun f cdv A outer s H E hr => ⟨_, _, (pss_cons (ps_set (i := 3) sc_read_parts.nd rfl (.inl rfl) (pe_own (pe_lst pa_nil)))
    (pss_cons (ps_while PassesOwn.never (PW.pt (pw_and (pt_cmpR op_lt (pv 1) (pe_callB (lenU K) (by rfl) T.n_len (by decide +kernel) (pa_cons (pv 0) pa_nil)) (nomark _)) (pw_and1 (pt_cmpR op_ne (pe_ix ix_str (pv 0) (pv 1) (fun _ _ => rfl)) pe_str (nomark _))))) (pss_cons (ps_set (i := 4) sc_read_parts.nd rfl (.inl rfl) (pe_ix ix_str (pv 0) (pv 1) (fun _ _ => rfl)))
    (pss_consB (ps_if (pt_cmpR op_eq (pv 4) pe_str (nomark _)) (pss_cons (ps_if (pt_cmpR op_eq (pv 2) (pe_gint T.c_MOST_OPEN) (nomark _)) (pss_one ps_never) pss_nil)
    (pss_cons (ps_asg (cal IH hr (pa_cons (pv 0) (pa_cons (pe_op op_add (pv 1) pe_int) (pa_cons (pe_op op_add (pv 2) pe_int) pa_nil)))) (pgTup K (n := 2) (pgs_cons (pg_name (i := 4) sc_read_parts.nd rfl (.inl rfl)) (pgs_cons (pg_name (i := 5) sc_read_parts.nd rfl (.inl rfl)) pgs_nil))))
    (pss_cons (ps_if (PW.pt (pw_or (pt_cmpR op_eq (pv 5) (pe_callB (lenU K) (by rfl) T.n_len (by decide +kernel) (pa_cons (pv 0) pa_nil)) (nomark _)) (pw_or1 (pt_cmpR (eqD K hr) (pv 4) (pe_tup pa_nil) (nomark _))))) (pss_one ps_never) pss_nil)
    (pss_one (ps_set (i := 1) sc_read_parts.nd rfl (.inl rfl) (pv 5)))))) (pss_one (ps_if (pt_cmpR op_notIn_sign (pv 4) (pe_gstr T.c_AXES) rfl) (pss_one ps_never) pss_nil)))
    (pss_cons (ps_asg (cal (Q_read_times (K := K) T) hr (pa_cons (pv 0) (pa_cons (pe_op op_add (pv 1) pe_int) pa_nil))) (pgTup K (n := 2) (pgs_cons (pg_name (i := 6) sc_read_parts.nd rfl (.inl rfl)) (pgs_cons (pg_name (i := 1) sc_read_parts.nd rfl (.inl rfl)) pgs_nil))))
    (pss_one (ps_expr (bmK K PySem.F.plainAttrs_list PySem.F.slot_list_append PySem.F.type_list_append mt_append (pv 3) (pa_cons (pe_tup (pa_cons (pv 4) (pa_cons (pv 6) pa_nil))) pa_nil))))))))
    (pss_one (ps_ret (pe_tup (pa_cons (pe_callTy (tupleOf K) (by rfl) T.n_tuple (by decide +kernel) (pa_cons (pv 3) pa_nil)) (pa_cons (pv 1) pa_nil))))))), inferInstance, fun ds c Q hl h => by
      obtain ⟨a, p, R, d, rfl, hok, hh, h8, hR, h1, q⟩ := h
      walk_at "pl"
      refine ⟨fun m ρ' c' => ∃ (b : List Nat) (xs : List D) (r : Pts) (y4 y5 y6 : Option Sl), p.tx = b ++ r.tx ∧ p.da = xs ++ r.da ∧ r.ok ∧ r.ht ≤ p.ht ∧ m = r.sz ∧ ρ' = [some (.val (.str (sg (a ++ p.tx ++ R)))), some (.val (.int ((a ++ b).length : Nat))), some (.val (.int (d : Int))), some (.own xs), y4, y5, y6] ∧ c' = c, ⟨_, [], [], p, none, none, none, rfl, rfl, hok, Nat.le_refl _, rfl, by rw [List.append_nil], rfl⟩, ?_⟩
      rintro m ρ' c' ⟨b, xs, r, y4, y5, y6, e1, e2, rok, rht, rfl, rfl, rfl⟩
      have eT : a ++ p.tx ++ R = (a ++ b) ++ (r.tx ++ R) := by rw [e1]; simp
      rw [eT] at h1 ⊢
      obtain ⟨A, hA⟩ : ∃ A, A = a ++ b := ⟨_, rfl⟩
      rw [← hA] at h1 eT ⊢
      have zl : (A ++ (r.tx ++ R)).length ≤ 16777216 := Nat.le_trans h1 (by decide)
      have ne1 : ∀ c d : Nat, c ≠ d → ¬ ((⟨#[c]⟩ : Str) = ⟨#[d]⟩) := fun c d h z => h (sign_eq.mp z)
      have eP : Str.ofString ")" = ⟨#[41]⟩ := by decide +kernel
      have eO : Str.ofString "(" = ⟨#[40]⟩ := by decide +kernel
      walk_at "pl"
      rw [eP]
      have hAl : A.length = a.length + b.length := by rw [hA, List.length_append]
      have hxl : xs.length ≤ 10000 := by
        have h2 := Pts.sz_tx p
        rw [← Pts.sz_len, e2, e1, List.length_append, List.length_append] at h2
        rw [List.length_append, List.length_append] at h1
        omega
      cases r with
      | nil =>
        have hq : Q (.tup [.tup xs, .int (A.length : Nat)]) c' := by
          rw [e2, e1, Pts.da, Pts.tx, List.append_nil, List.append_nil] at q
          rw [hA, List.length_append]
          exact q
        refine ⟨zl, ?_⟩
        rcases hR with rfl | hR
        · exact if_f (decide_eq_false (by rw [Pts.tx]; simp)) hq
        · have g : (A ++ (Pts.nil.tx ++ R))[A.length]? = some 41 := by
            rw [List.getElem?_append_right (Nat.le_refl _), Nat.sub_self]
            exact hR
          have hlt := (List.getElem?_eq_some_iff.mp g).1
          exact if_t (decide_eq_true (by omega)) ⟨zl, _, at_nat rfl g, if_nd (fun z => absurd rfl z) fun _ => hq⟩
      | lf ch t dd r2 =>
        have g : (A ++ ((Pts.lf ch t dd r2).tx ++ R))[A.length]? = some ch := by
          rw [List.getElem?_append_right (Nat.le_refl _), Nat.sub_self]
          rfl
        have hlt := (List.getElem?_eq_some_iff.mp g).1
        obtain ⟨k1, k2, k3, k4⟩ := rok
        refine ⟨zl, if_t (decide_eq_true (by omega)) ⟨zl, _, at_nat rfl g, if_nd (fun _ => ⟨zl, _, at_nat rfl g, pseq_by (fun ρ2 c2 => ρ2 = [some (.val (.str (sg (A ++ ((Pts.lf ch t dd r2).tx ++ R))))), some (.val (.int (A.length : Nat))), some (.val (.int (d : Int))), some (.own xs), some (.val (.str ⟨#[ch]⟩)), y5, y6] ∧ c2 = c') ?_ ?_⟩) fun z => absurd z (ne1 _ _ (by omega))⟩⟩
        · rintro ρ2 c2 ⟨rfl, rfl⟩
          have eA : A ++ ((Pts.lf ch t dd r2).tx ++ R) = (A ++ [ch]) ++ dd ++ (r2.tx ++ R) := by
            rw [Pts.tx]
            simp
          have eL : (A.length : Int) + 1 = ((A ++ [ch]).length : Nat) := by simp
          walk_at "pl"
          rw [eL]
          refine ⟨A ++ [ch], dd, r2.tx ++ R, t, by rw [eA], by rw [← eA]; exact h1, k3, Pts.head k4 hR, ?_⟩
          walk_at "pl"
          refine ⟨by omega, r2.sz, Nat.lt_succ_self _, b ++ ch :: dd, _, r2, by rw [e1, Pts.tx]; simp, by rw [e2, Pts.da, List.append_assoc]; rfl, k4, rht, rfl, ?_, rfl⟩
          simp only [List.length_append, List.length_cons, List.length_nil]
          omega
        · intro k hk
          walk_at "pl"
          rw [eO]
          exact if_d (fun z => absurd z (ne1 _ _ (by omega))) fun _ => ⟨ch, rfl, if_nd (fun z => absurd ((abcd_iff _).mpr ⟨k1, k2⟩) z) fun _ => hk _ _ ⟨rfl, rfl⟩⟩
      | gr i t dd r2 =>
        have g : (A ++ ((Pts.gr i t dd r2).tx ++ R))[A.length]? = some 40 := by
          rw [List.getElem?_append_right (Nat.le_refl _), Nat.sub_self]
          rfl
        have hlt := (List.getElem?_eq_some_iff.mp g).1
        obtain ⟨k1, k2, k3, k4⟩ := rok
        have m1 : i.ht + 1 ≤ (Pts.gr i t dd r2).ht := Nat.le_max_left _ _
        refine ⟨zl, if_t (decide_eq_true (by omega)) ⟨zl, _, at_nat rfl g, if_nd (fun _ => ⟨zl, _, at_nat rfl g, pseq_by (fun ρ2 c2 => ρ2 = [some (.val (.str (sg (A ++ ((Pts.gr i t dd r2).tx ++ R))))), some (.val (.int ((A ++ 40 :: i.tx).length : Nat))), some (.val (.int (d : Int))), some (.own xs), some (.val (.tup i.da)), some (.val (.int ((A ++ 40 :: i.tx).length : Nat))), y6] ∧ c2 = c') ?_ ?_⟩) fun z => absurd z (ne1 _ _ (by decide))⟩⟩
        · rintro ρ2 c2 ⟨rfl, rfl⟩
          have eA : A ++ ((Pts.gr i t dd r2).tx ++ R) = (A ++ 40 :: (i.tx ++ [41])) ++ dd ++ (r2.tx ++ R) := by
            rw [Pts.tx]
            simp
          have eL : ((A ++ 40 :: i.tx).length : Int) + 1 = ((A ++ 40 :: (i.tx ++ [41])).length : Nat) := by
            simp only [List.length_append, List.length_cons, List.length_nil]
            omega
          walk_at "pl"
          rw [eL]
          refine ⟨A ++ 40 :: (i.tx ++ [41]), dd, r2.tx ++ R, t, by rw [eA], by rw [← eA]; exact h1, k3, Pts.head k4 hR, ?_⟩
          walk_at "pl"
          have m2 : r2.ht ≤ (Pts.gr i t dd r2).ht := Nat.le_max_right _ _
          refine ⟨by omega, r2.sz, Nat.lt_succ_self _, b ++ 40 :: (i.tx ++ 41 :: dd), _, r2, by rw [e1, Pts.tx]; simp, by rw [e2, Pts.da, List.append_assoc]; rfl, k4, by omega, rfl, ?_, rfl⟩
          simp only [List.length_append, List.length_cons, List.length_nil]
          omega
        · intro k hk
          walk_at "pl"
          rw [eO]
          have eB : A ++ ((Pts.gr i t dd r2).tx ++ R) = A ++ [40] ++ i.tx ++ (41 :: (dd ++ r2.tx) ++ R) := by
            rw [Pts.tx]
            simp
          have eL : (A.length : Int) + 1 = ((A ++ [40]).length : Nat) := by simp
          have eD : (d : Int) + 1 = ((d + 1 : Nat) : Int) := rfl
          have eT : (A ++ [40]).length + i.tx.length = (A ++ 40 :: i.tx).length := by simp; omega
          have h1' := h1
          rw [eB] at h1'
          have hlA : (A ++ 40 :: i.tx).length < (A ++ ((Pts.gr i t dd r2).tx ++ R)).length := by
            rw [Pts.tx]
            simp only [List.length_append, List.length_cons]
            omega
          have hne : WP.eqD (.tup i.da) (.tup []) = false := by
            cases e : i.da with
            | nil => exact absurd (Pts.da_nil e) k1
            | cons x y => rfl
          refine if_d (fun _ => if_d (fun z => absurd z (by omega)) fun _ => ?_) fun z => absurd rfl z
          rw [eL, eD]
          refine ⟨A ++ [40], i, 41 :: (dd ++ r2.tx) ++ R, d + 1, by rw [eB], k2, by omega, by omega, .inr rfl, h1', ?_⟩
          rw [eT]
          walk_at "pl"
          exact ⟨zl, if_f (decide_eq_false (by omega)) ⟨Pts.cmp_ok k2 (by omega), Pts.cmp_ok (p := .nil) trivial (by decide), if_f hne (hk _ _ ⟨rfl, rfl⟩)⟩⟩⟩
def sq_count_letter (h : Nat) : PSp := fun ds c Q => ∃ (p : Pts) (ch : Nat), ds = [.tup p.da, .str ⟨#[ch]⟩] ∧ p.ok ∧ p.ht < h ∧ p.lt.length < 2 ^ 200 ∧ Q (.int (p.lt.count ch : Nat)) c
theorem Q_count_letter (T : Txt K mg) : ∀ h, Ok P w K mg base CX0 (h + 1) "count_letter" ["parts", "letter"] (spP K 2 (sq_count_letter h))
  | 0 => okP T.f_count_letter T.g_count_letter sc_count_letter (fun _ _ _ _ _ _ us hl => match us, hl with | [_, _], _ => rfl) fun f cdv A outer s H E hr => ⟨_, _, (pss_cons (ps_set (i := 2) sc_count_letter.nd rfl (.inl rfl) pe_int)
    (pss_cons (ps_for PassesOwn.never rfl (piT K (pv 0)) (pgTup K (n := 2) (pgs_cons (pg_name (i := 3) sc_count_letter.nd rfl (.inl rfl)) (pgs_cons (pg_name (i := 4) sc_count_letter.nd rfl (.inl rfl)) pgs_nil))) (pss_one (ps_if (pt_val (pe_callB (isi K) (by rfl) T.n_isinstance (by decide +kernel) (pa_cons (pv 3) (pa_cons (pe_bltn (v := .ty "tuple") rfl T.n_tuple (by decide +kernel) rfl) pa_nil)))) pss_never (pss_one (ps_if (pt_cmpR op_eq (pv 3) (pv 1) (nomark _)) (pss_one (ps_set (i := 2) sc_count_letter.nd rfl (.inl rfl) (pe_op op_add (pv 2) (pv 4)))) pss_nil)))))
    (pss_one (ps_ret (pv 2))))), inferInstance, fun ds c Q hl h => by
    obtain ⟨_, _, _, _, h, _⟩ := h
    exact absurd h (Nat.not_lt_zero _)⟩
  | h + 1 => by
    have IH := Q_count_letter T h
    exact okP T.f_count_letter T.g_count_letter sc_count_letter (fun _ _ _ _ _ _ us hl => match us, hl with | [_, _], _ => rfl) fun f cdv A outer s H E hr => ⟨_, _, (pss_cons (ps_set (i := 2) sc_count_letter.nd rfl (.inl rfl) pe_int)
    (pss_cons (ps_for PassesOwn.never rfl (piT K (pv 0)) (pgTup K (n := 2) (pgs_cons (pg_name (i := 3) sc_count_letter.nd rfl (.inl rfl)) (pgs_cons (pg_name (i := 4) sc_count_letter.nd rfl (.inl rfl)) pgs_nil))) (pss_one (ps_if (pt_val (pe_callB (isi K) (by rfl) T.n_isinstance (by decide +kernel) (pa_cons (pv 3) (pa_cons (pe_bltn (v := .ty "tuple") rfl T.n_tuple (by decide +kernel) rfl) pa_nil)))) (pss_one (ps_set (i := 2) sc_count_letter.nd rfl (.inl rfl) (pe_op op_add (pv 2) (pe_op op_mulX (pv 4) (cal IH hr (pa_cons (pv 3) (pa_cons (pv 1) pa_nil))))))) (pss_one (ps_if (pt_cmpR op_eq (pv 3) (pv 1) (nomark _)) (pss_one (ps_set (i := 2) sc_count_letter.nd rfl (.inl rfl) (pe_op op_add (pv 2) (pv 4)))) pss_nil)))))
    (pss_one (ps_ret (pv 2))))), inferInstance, fun ds c Q hl h => by
      obtain ⟨p, ch, rfl, hok, hh, hl, q⟩ := h
      walk_at "pl"
      refine ⟨fun i ρ' c' => ∃ (xs : List D) (b : List Nat) (r : Pts) (y3 y4 : Option Sl), p.da = xs ++ r.da ∧ xs.length = i ∧ p.lt = b ++ r.lt ∧ r.ok ∧ r.ht ≤ p.ht ∧ ρ' = [some (.val (.tup p.da)), some (.val (.str ⟨#[ch]⟩)), some (.val (.int (b.count ch : Nat))), y3, y4] ∧ c' = c, ⟨[], [], p, none, none, rfl, rfl, rfl, hok, Nat.le_refl _, rfl, rfl⟩, ?_, ?_⟩
      · rintro i x ρ' c' hx ⟨xs, b, r, y3, y4, e1, rfl, e2, rok, rht, rfl, rfl⟩
        rw [e1, List.getElem?_append_right (Nat.le_refl _), Nat.sub_self] at hx
        rw [e2] at hl
        cases r with
        | nil => cases hx
        | lf cc t dd r2 =>
          cases hx
          obtain ⟨k1, k2, k3, k4⟩ := rok
          walk_at "pl"
          have e3 : p.da = (xs ++ [.tup [.str (sg [cc]), .int (t : Int)]]) ++ r2.da := by rw [e1, Pts.da]; simp
          have e4 : p.lt = (b ++ List.replicate t cc) ++ r2.lt := by rw [e2, Pts.lt]; simp
          have e5 : (b ++ List.replicate t cc).count ch = b.count ch + if (cc == ch) = true then t else 0 := by rw [List.count_append, List.count_replicate]
          refine if_d (fun e => ⟨_, _, r2, e3, by simp, e4, k4, rht, ?_⟩) fun e => ⟨_, _, r2, e3, by simp, e4, k4, rht, ?_⟩
          · rw [e5, if_pos (beq_iff_eq.mpr (sign_eq.mp e)), Int.natCast_add]
          · rw [e5, if_neg fun z => e (sign_eq.mpr (beq_iff_eq.mp z)), Nat.add_zero]
        | gr i t dd r2 =>
          cases hx
          obtain ⟨k1, k2, k3, k4⟩ := rok
          have m1 : i.ht + 1 ≤ (Pts.gr i t dd r2).ht := Nat.le_max_left _ _
          have m2 : r2.ht ≤ (Pts.gr i t dd r2).ht := Nat.le_max_right _ _
          have m3 := Pts.in_len (i := i) (r := r2) (ds := dd) k3.most.1
          have m4 := k3.most
          rw [List.length_append] at hl
          have e3 : p.da = (xs ++ [.tup [.tup i.da, .int (t : Int)]]) ++ r2.da := by rw [e1, Pts.da]; simp
          have e4 : p.lt = (b ++ (List.replicate t i.lt).flatten) ++ r2.lt := by rw [e2, Pts.lt]; simp
          have m5 : i.lt.count ch ≤ i.lt.length := List.count_le_length
          have m6 : ((2 ^ 200 : Nat) : Int) = 2 ^ 200 := by decide +kernel
          have m7 : (2 : Int) ^ 8 = 256 := by decide
          walk_at "pl"
          refine ⟨i, ch, rfl, k2, by omega, by omega, _, rfl, mulx_of (a := 8) (b := 200) (by omega) (by omega) (by omega) (by omega) (by decide), _, _, r2, e3, by simp, e4, k4, by omega, ?_, rfl⟩
          rw [List.count_append, Pts.count_fl, Int.natCast_add, Int.natCast_mul]
      · rintro ρ' c' ⟨xs, b, r, y3, y4, e1, e3, e2, rok, rht, rfl, rfl⟩
        have : r = .nil := Pts.da_nil (by
          rw [e1, List.length_append] at e3
          exact List.length_eq_zero_iff.mp (by omega))
        subst this
        walk_at "pl"
        rw [e2, Pts.lt, List.append_nil] at q
        exact q⟩
theorem flat_zero {α : Type} : ∀ n : Nat, (List.replicate n ([] : List α)).flatten = []
  | 0 => rfl
  | n + 1 => by rw [List.replicate_succ, List.flatten_cons, flat_zero n]; rfl
theorem fold_repl (b : Array Nat) : ∀ (n : Nat) (a : Array Nat), ((List.replicate n b).foldl (fun x y => x ++ y) a).toList = a.toList ++ (List.replicate n b.toList).flatten
  | 0, a => by simp
  | n + 1, a => by
    rw [List.replicate_succ, List.foldl_cons, fold_repl b n]
    simp [List.replicate_succ]
theorem mul_sg {l : List Nat} {t : Nat} (h : 1 ≤ t) : Txt.mul (sg l) (t : Int) = sg (List.replicate t l).flatten := by
  unfold Txt.mul
  rw [if_neg (by omega)]
  split
  · rename_i e
    rw [Bool.or_eq_true, beq_iff_eq, beq_iff_eq, sg_len] at e
    rcases e with e | e
    · have : t = 1 := by omega
      subst this
      simp
    · rw [List.length_eq_zero_iff.mp e, flat_zero]
  · show (⟨_⟩ : Str) = ⟨_⟩
    congr 1
    apply Array.toList_inj.mp
    rw [Int.toNat_natCast, fold_repl, sg_cps]
    simp
theorem mul_sg_ok {l : List Nat} {t : Nat} (h : l.length ≤ 1000) (ht : t ≤ 1000) : MulOk (sg l) (t : Int) := by
  have hp : l.length * t ≤ 1000 * 1000 := Nat.mul_le_mul h ht
  refine ⟨?_, fun _ _ => ?_, fun _ _ => ?_⟩
  · rw [Bool.or_eq_false_iff]
    exact ⟨decide_eq_false (by omega), decide_eq_false (by omega)⟩
  · intro z
    rw [sg_len] at z
    rcases Nat.eq_zero_or_pos t with e | e
    · omega
    · have := (Int.ediv_lt_iff_lt_mul (a := 2 ^ 63 - 1) (b := (l.length : Int)) (c := (t : Int)) (by omega)).mp z
      have e2 : (l.length : Int) * t = ((l.length * t : Nat) : Int) := by rw [Int.natCast_mul]
      omega
  · unfold Builtin.Str.tooLong
    rw [Int.toNat_natCast, sg_len]
    apply decide_eq_false
    rw [sizeLine_eq]
    omega
def sq_written (h : Nat) : PSp := fun ds c Q => ∃ (p : Pts), ds = [.tup p.da] ∧ p.ok ∧ p.ht < h ∧ p.lt.length ≤ 1000 ∧ Q (.str (sg p.lt)) c
theorem Q_written (T : Txt K mg) : ∀ h, Ok P w K mg base CX0 (h + 1) "written" ["parts"] (spP K 1 (sq_written h))
  | 0 => okP T.f_written T.g_written sc_written (fun _ _ _ _ _ _ us hl => match us, hl with | [_], _ => rfl) fun f cdv A outer s H E hr => ⟨_, _, (pss_one (ps_ret (bmK K PySem.F.plainAttrs_str PySem.F.slot_str_join PySem.F.type_str_join (mtJoin K) pe_str (pa_cons (pe_lc (own := [("content", 1), ("times", 2)]) (g := (gTup K 2 (gCons (gName 1) (gCons (gName 2) gNil)))) rfl sc_written.nd (piT K (pv 0)) (blkOk_by (N := N_written) (sc := defScope s_written) (by decide +kernel)) (fun _ _ _ _ _ => (pgTup K (n := 2) (pgs_cons (pg_name (i := 1) sc_written.nd rfl (.inl rfl)) (pgs_cons (pg_name (i := 2) sc_written.nd rfl (.inl rfl)) pgs_nil)))) (fun _ _ _ _ _ => pts_nil) (fun _ _ _ _ _ => (pe_op op_mul_str (pe_ifExp (pt_val (pe_callB (isi K) (by rfl) T.n_isinstance (by decide +kernel) (pa_cons (pv 1) (pa_cons (pe_bltn (v := .ty "tuple") rfl T.n_tuple (by decide +kernel) rfl) pa_nil)))) pe_dead (pv 1)) (pv 2)))) pa_nil)))), inferInstance, fun ds c Q hl h => by
    obtain ⟨_, _, _, h, _⟩ := h
    exact absurd h (Nat.not_lt_zero _)⟩
  | h + 1 => by
    have IH := Q_written T h
    exact okP T.f_written T.g_written sc_written (fun _ _ _ _ _ _ us hl => match us, hl with | [_], _ => rfl) fun f cdv A outer s H E hr => ⟨_, _, (pss_one (ps_ret (bmK K PySem.F.plainAttrs_str PySem.F.slot_str_join PySem.F.type_str_join (mtJoin K) pe_str (pa_cons (pe_lc (own := [("content", 1), ("times", 2)]) (g := (gTup K 2 (gCons (gName 1) (gCons (gName 2) gNil)))) rfl sc_written.nd (piT K (pv 0)) (blkOk_by (N := N_written) (sc := defScope s_written) (by decide +kernel)) (fun _ _ _ _ _ => (pgTup K (n := 2) (pgs_cons (pg_name (i := 1) sc_written.nd rfl (.inl rfl)) (pgs_cons (pg_name (i := 2) sc_written.nd rfl (.inl rfl)) pgs_nil)))) (fun _ _ _ _ _ => pts_nil) (fun _ _ _ _ _ => (pe_op op_mul_str (pe_ifExp (pt_val (pe_callB (isi K) (by rfl) T.n_isinstance (by decide +kernel) (pa_cons (pv 1) (pa_cons (pe_bltn (v := .ty "tuple") rfl T.n_tuple (by decide +kernel) rfl) pa_nil)))) (cal IH hr (pa_cons (pv 1) pa_nil)) (pv 1)) (pv 2)))) pa_nil)))), inferInstance, fun ds c Q hl h => by
      obtain ⟨p, rfl, hok, hh, hl, q⟩ := h
      walk_at "pl"
      refine ⟨fun i acc c' => ∃ (xs : List D) (b : List (List Nat)) (r : Pts), p.da = xs ++ r.da ∧ xs.length = i ∧ p.lt = b.flatten ++ r.lt ∧ b.length = i ∧ r.ok ∧ r.ht ≤ p.ht ∧ acc = b.map (fun l => .str (sg l)) ∧ c' = c, ⟨[], [], p, rfl, rfl, rfl, rfl, hok, Nat.le_refl _, rfl, rfl⟩, ?_, ?_⟩
      · rintro i x acc c' hx ⟨xs, b, r, e1, rfl, e2, e3, rok, rht, rfl, rfl⟩
        rw [e1, List.getElem?_append_right (Nat.le_refl _), Nat.sub_self] at hx
        rw [e2] at hl
        cases r with
        | nil => cases hx
        | lf cc t dd r2 =>
          cases hx
          obtain ⟨k1, k2, k3, k4⟩ := rok
          have m4 := k3.most
          have e5 : p.da = (xs ++ [.tup [.str (sg [cc]), .int (t : Int)]]) ++ r2.da := by rw [e1, Pts.da]; simp
          have e4 : p.lt = (b ++ [List.replicate t cc]).flatten ++ r2.lt := by rw [e2, Pts.lt]; simp
          have e6 := Pts.sz_lt hok
          rw [← Pts.sz_len, e1, List.length_append, e2] at e6
          walk_at "pl"
          refine ⟨mul_sign_ok (by omega), by omega, _, _, r2, e5, by simp, e4, by simp [e3], k4, rht, ?_⟩
          rw [List.map_append, show sg [cc] = ⟨#[cc]⟩ from rfl, mul_sign m4.1]
          rfl
        | gr i t dd r2 =>
          cases hx
          obtain ⟨k1, k2, k3, k4⟩ := rok
          have m1 : i.ht + 1 ≤ (Pts.gr i t dd r2).ht := Nat.le_max_left _ _
          have m2 : r2.ht ≤ (Pts.gr i t dd r2).ht := Nat.le_max_right _ _
          have m3 := Pts.in_len (i := i) (r := r2) (ds := dd) k3.most.1
          have m4 := k3.most
          have e5 : p.da = (xs ++ [.tup [.tup i.da, .int (t : Int)]]) ++ r2.da := by rw [e1, Pts.da]; simp
          have e4 : p.lt = (b ++ [(List.replicate t i.lt).flatten]).flatten ++ r2.lt := by rw [e2, Pts.lt]; simp
          have e6 := Pts.sz_lt hok
          rw [← Pts.sz_len, e1, List.length_append, e2] at e6
          rw [List.length_append] at hl e6
          walk_at "pl"
          refine ⟨i, rfl, k2, by omega, by omega, _, rfl, ?_, by omega, _, _, r2, e5, by simp, e4, by simp [e3], k4, by omega, ?_, rfl⟩
          · exact mul_sg_ok (by omega) (by omega)
          · rw [List.map_append, mul_sg m4.1]
            rfl
      · rintro acc c' ⟨xs, b, r, e1, e3, e2, e4, rok, rht, rfl, rfl⟩
        have : r = .nil := Pts.da_nil (by
          rw [e1, List.length_append] at e3
          exact List.length_eq_zero_iff.mp (by omega))
        subst this
        rw [Pts.lt, List.append_nil] at e2
        walk_at "pl"
        refine ⟨b.map sg, by rw [List.map_map]; rfl, ?_, ?_⟩
        · have e5 : ((b.map sg).map fun x : Str => x.length).sum = p.lt.length := by
            rw [List.map_map, e2, List.length_flatten]
            refine congrArg List.sum (List.map_congr_left fun x _ => ?_)
            exact sg_len x
          rw [e5]
          show _ + _ * 0 ≤ _
          omega
        · have e6 := glue_sg b
          rw [← e2] at e6
          exact (show Txt.join (Str.ofString "") (b.map sg) = sg p.lt from e6) ▸ q⟩
theorem at_lastD {ns : List Int} {v : Int} (h : 0 < ns.length) (e : ns[ns.length - 1]? = some v) : atI (ns.map D.int) (-1) = some (D.int v) := by
  unfold atI ixN
  rw [List.length_map, if_neg (by decide), if_pos (by omega)]
  show (ns.map D.int)[(-1 + (ns.length : Int)).toNat]? = _
  rw [show (-1 + (ns.length : Int)).toNat = ns.length - 1 by omega, List.getElem?_map, e]
  rfl
theorem cnts_cutD {l : List Nat} {m : Nat} (h : 1 ≤ m) : cutP ((cnts l m).map D.int) none (some (-1)) = (cnts l (m - 1)).map D.int := by
  have hl : ((cnts l m).map D.int).length = m := by rw [List.length_map, cnts_len]
  unfold cutP
  rw [hl, HT.sIx_none]
  have e : HT.sIx m m (some (-1)) = m - 1 := by
    show (if (-1 : Int) < 0 then ((-1 : Int) + (m : Int)).toNat else min (-1 : Int).toNat m) = m - 1
    rw [if_pos (by decide)]
    omega
  rw [e, List.drop_zero, Nat.sub_zero]
  unfold cnts
  rw [← List.map_take, ← List.map_take, List.take_range, Nat.min_eq_left (by omega)]
theorem eqD_ne {ns : List Int} (h : 0 < ns.length) : WP.eqD (.lst (ns.map D.int)) (.lst []) = false := by
  cases ns with
  | nil => cases h
  | cons x y => rfl
def sq_read_weave : PSp := fun ds c Q => ∃ (p : Pts) (n : Nat), ds = [.str (sg p.tx)] ∧ p.ok ∧ p.ht ≤ 8 ∧ p.tx.length ≤ 9000 ∧ WK.WOk p.lt n ∧ Q (.str (sg p.lt)) c
theorem Q_read_weave (T : Txt K mg) : Ok P w K mg base CX0 12 "read_weave" ["text"] (spP K 1 sq_read_weave) :=
  okP T.f_read_weave T.g_read_weave sc_read_weave (fun _ _ _ _ _ _ us hl => match us, hl with | [_], _ => rfl) fun f cdv A outer s H E hr => ⟨_, _, (pss_cons (ps_if (pt_not (pt_val (pe_callB (isi K) (by rfl) T.n_isinstance (by decide +kernel) (pa_cons (pv 0) (pa_cons (pe_bltn (v := .ty "str") rfl T.n_str (by decide +kernel) rfl) pa_nil))))) (pss_one ps_never) pss_nil)
    (pss_cons (ps_asg (cal (Q_read_parts (K := K) T 9) hr (pa_cons (pv 0) (pa_cons pe_int (pa_cons pe_int pa_nil)))) (pgTup K (n := 2) (pgs_cons (pg_name (i := 1) sc_read_weave.nd rfl (.inr rfl)) (pgs_cons (pg_name (i := 2) sc_read_weave.nd rfl (.inl rfl)) pgs_nil))))
    (pss_cons (ps_if (pt_cmpR op_lt (pv 2) (pe_callB (lenU K) (by rfl) T.n_len (by decide +kernel) (pa_cons (pv 0) pa_nil)) (nomark _)) (pss_one ps_never) pss_nil)
    (pss_cons (ps_setLc (i := 3) (own := [("letter", 4)]) (g := (gName 4)) rfl sc_read_weave.nd rfl rfl (sw_true rfl rfl rfl (by decide +kernel)) (pi_str (pe_gstr T.c_AXES)) (blkOk_by (N := N_read_weave) (sc := defScope s_read_weave) (by decide +kernel)) (fun _ _ _ _ _ => (pg_name (i := 4) sc_read_weave.nd rfl (.inl rfl))) (fun _ _ _ _ _ => pts_nil) (fun _ _ _ _ _ => (cal (Q_count_letter (K := K) T 9) hr (pa_cons (pv 1) (pa_cons (pv 4) pa_nil)))))
    (pss_cons (ps_while PassesOwn.never (PW.pt (pw_and (pt_cmpR (neD K hr) (pv 3) (pe_lst pa_nil) (nomark _)) (pw_and1 (pt_cmpR op_eq (pe_ix (ixL K) (pv 3) (pe_un un_neg pe_int) (fun _ _ => rfl)) pe_int (nomark _))))) (pss_one (ps_set (i := 3) sc_read_weave.nd rfl (.inl rfl) (pe_slice (slL K) (pv 3) po_none (po_some (pe_un un_neg pe_int))))))
    (pss_cons (ps_if (PW.pt (pw_or (pt_cmpR (eqD K hr) (pv 3) (pe_lst pa_nil) (nomark _)) (pw_or1 (pt_cmpR (inSeq K) pe_int (pv 3) rfl)))) (pss_one ps_never) pss_nil)
    (pss_cons (ps_if (pt_cmpR op_gt (pe_callB (maxL K) (by rfl) T.n_max (by decide +kernel) (pa_cons (pv 3) pa_nil)) (pe_gint T.c_MOST_BITS) (nomark _)) (pss_one ps_never) pss_nil)
    (pss_cons (ps_if (pt_cmpR op_gt (pe_callB (sumL K) (by rfl) T.n_sum (by decide +kernel) (pa_cons (pv 3) pa_nil)) (pe_gint T.c_MOST_LETTERS) (nomark _)) (pss_one ps_never) pss_nil)
    (pss_one (ps_ret (cal (Q_written (K := K) T 9) hr (pa_cons (pv 1) pa_nil)))))))))))), inferInstance, fun ds c Q hl h => by
    obtain ⟨p, n, rfl, hok, hh, hl, hW, q⟩ := h
    walk_at "pl"
    refine ⟨[], p, [], 0, by simp, hok, by omega, by omega, .inl rfl, by simp; omega, ?_⟩
    walk_at "pl"
    have eabc : (Str.ofString "abcd").cps.toList = [97, 98, 99, 100] := by decide +kernel
    have h2 : p.lt.length < 2 ^ 200 := Nat.lt_of_le_of_lt hW.le (by decide)
    refine ⟨by omega, if_f (decide_eq_false (by omega)) (pcomp_f (L := (Str.ofString "abcd").cps.toList) (f := fun c => .str ⟨#[c]⟩) (g := fun ch => .int (p.lt.count ch : Nat)) (by rw [eabc]; decide) (fun i e R he hR => ?_) ?_)⟩
    · walk_at "pl"
      exact ⟨p, e, rfl, hok, by omega, h2, hR⟩
    · have e4 : (Str.ofString "abcd").cps.toList.map (fun ch => D.int (p.lt.count ch : Nat)) = (cnts p.lt 4).map D.int := by rw [eabc]; rfl
      rw [e4]
      refine ⟨fun m ρ' c' => ∃ k : Nat, n ≤ k ∧ k ≤ 4 ∧ m = k ∧ ρ' = [some (.val (.str (sg p.tx))), some (.val (.tup p.da)), some (.val (.int ((0 + p.tx.length : Nat) : Int))), some (.val (.lst ((cnts p.lt k).map .int))), none] ∧ c' = c, ⟨4, 4, hW.n4, Nat.le_refl _, rfl, rfl, rfl⟩, ?_⟩
      rintro m ρ' c' ⟨k, k1, k4, rfl, rfl, rfl⟩
      have hn1 := hW.n1
      have hlen := cnts_len p.lt m
      have hne := eqD_ne (ns := cnts p.lt m) (by omega)
      have hlast : (cnts p.lt m)[(cnts p.lt m).length - 1]? = some (p.lt.count (97 + (m - 1)) : Int) := by rw [hlen, cnts_at (by omega)]
      walk_at "pl"
      refine ⟨cmp_ints _, cmp_nil, if_t (by rw [hne]; rfl) ⟨_, at_lastD (by omega) hlast, rfl, if_d (fun e => ?_) fun e => ?_⟩⟩
      · have e0 : (p.lt.count (97 + (m - 1)) : Int) = 0 := V.int.inj e
        refine ⟨m - 1, by omega, m - 1, ?_, by omega, rfl, cnts_cutD (by omega)⟩
        rcases Nat.lt_or_ge n m with h | h
        · omega
        · have := hW.lo (m - 1) (by omega)
          omega
      · have hnm : m = n := by
          rcases Nat.lt_or_ge n m with h | h
          · have h3 := hW.no (m - 1) (by omega) (by omega)
            rw [h3] at e
            exact absurd rfl e
          · omega
        subst hnm
        refine ⟨cmp_ints _, cmp_nil, if_f hne ⟨rfl, List.all_eq_true.mpr fun x hx => ?_, if_f ?_ ⟨cnts p.lt m, rfl, by omega, fun M hM _ => if_d (fun z => ?_) fun _ => ⟨cnts p.lt m, rfl, if_d (fun z => ?_) fun _ => ⟨p, rfl, hok, by omega, Nat.le_trans hW.le (by decide), q⟩⟩⟩⟩⟩
        · obtain ⟨i, _, rfl⟩ := List.mem_map.mp hx
          rfl
        · unfold inD inV
          rw [List.any_eq_false]
          intro x hx
          rw [List.map_map] at hx
          obtain ⟨i, hi, rfl⟩ := List.mem_map.mp hx
          obtain ⟨k, hk, rfl⟩ := cnts_mem hi
          have := hW.lo k hk
          show ¬ (((p.lt.count (97 + k) : Int) == 0) = true)
          rw [beq_iff_eq]
          omega
        · obtain ⟨k, hk, rfl⟩ := cnts_mem hM
          have := hW.hi k hk
          omega
        · rw [cnts_sum] at z
          have h1 := List.length_filter_le (fun c => decide (97 ≤ c ∧ c < 97 + m)) p.lt
          have h3 := hW.le
          omega⟩

end
section
variable {P : Program} {w : World} {K : PySem.W.Frag} {mg : Str → Option Value} {base : Heap}
/-! ### the weave text, seen from the heap -/
def sp_read_weave : Sp := fun vs H Q _ => ∃ (p : Pts) (n : Nat), vs = [.str (sg p.tx)] ∧ p.ok ∧ p.ht ≤ 8 ∧ p.tx.length ≤ 9000 ∧ WK.WOk p.lt n ∧ ∀ H', Same H H' → Q (.str (sg p.lt)) H'
theorem O_read_weave (T : Txt K mg) : Ok P w K mg base CX0 12 "read_weave" ["text"] sp_read_weave :=
  Ok.imp (Q_read_weave T) fun vs H Q E h => by
    obtain ⟨p, n, rfl, hok, hh, hl, hW, q⟩ := h
    refine ⟨⟨fun _ => False, fun _ => False⟩, ⟨0⟩, [.str (sg p.tx)], fun d _ => d = .str (sg p.lt), ⟨fun _ h => h, fun _ h => h.elim, fun _ h => h.elim⟩, .cons (.str _) .nil, rfl, ⟨p, n, rfl, hok, hh, hl, hW, rfl⟩, fun v d w' c' H' l' _ r e => ?_⟩
    subst e
    rw [RP.str r]
    exact q H' fun a o ha => l'.ex a o (fun z => z) ha
/-! ### the class -/
def sp_Weave___init__ (K : PySem.W.Frag) : Sp := fun vs H Q _ => ∃ (x dx : Addr) (p : Pts) (n : Nat), vs = [.ref x, .str (sg p.tx)] ∧ H x = some (.ins (He.ga K "Weave") dx []) ∧ p.ok ∧ p.ht ≤ 8 ∧ p.tx.length ≤ 9000 ∧ WOk (p.lt) n ∧
  ∀ H', But x H H' → shp K H' x (p.lt) n → Q .non H'
theorem O_Weave___init__ (T : Txt K mg) : OkM P w K mg base CX0 13 (He.ma K (He.ga K "Weave") "__init__") ["self", "text"] (sp_Weave___init__ K) :=
  OkM.mk0 T.f_Weave___init__ sc_Weave___init__ (by rintro vs H Q E ⟨_, _, _, _, rfl, _⟩; rfl) (fun _ _ _ _ _ _ us hl => match us, hl with | [_, _], _ => rfl) (fun f cdv A outer s H vs Q E hr h => by
    obtain ⟨x, dx, p, n, rfl, hx, hok, hh, hl, hW, q⟩ := h
    refine ⟨_, (pss_cons (sfldK K (pv 0) (cal (O_read_weave T) hr (pa_cons (pv 1) pa_nil)))
    (pss_one (sfldK K (pv 0) (pe_callTy (tupleOf K) (by rfl) T.n_tuple (by decide +kernel) (pa_cons (pe_lc (own := [("letter", 2)]) (g := (gName 2)) rfl sc_Weave___init__.nd (pi_str (pe_gstr T.c_AXES)) (blkOk_by (N := N_Weave___init__) (sc := defScope s_Weave___init__) (by decide +kernel)) (fun _ _ _ _ _ => (pg_name (i := 2) sc_Weave___init__.nd rfl (.inl rfl))) (fun _ _ _ _ _ => (pts_one (pt_cmpR op_in_sign (pv 2) (fldK K (pv 0)) rfl))) (fun _ _ _ _ _ => (bmK K PySem.F.plainAttrs_str PySem.F.slot_str_count PySem.F.type_str_count mt_count (fldK K (pv 0)) (pa_cons (pv 2) pa_nil)))) pa_nil))))), ?_⟩
    walk_at "vc"
    refine ⟨p, n, rfl, hok, hh, hl, hW, fun H1 hs => ?_⟩
    have hx1 := hs _ _ hx
    refine ⟨_, dx, _, hx1, T.k_Weave, T.a_Weave_own_letters, by decide, ?_⟩
    show CompL _ _ _ _ _ _ (upd H1 x (.ins (He.ga K "Weave") dx [("own_letters", .str (sg (p.lt)))])) _
    have h2 : upd H1 x (.ins (He.ga K "Weave") dx [("own_letters", .str (sg (p.lt)))]) x = _ := upd_same
    have b2 : But x H (upd H1 x (.ins (He.ga K "Weave") dx [("own_letters", .str (sg (p.lt)))])) := (But.of_same hs).at
    generalize upd H1 x (.ins (He.ga K "Weave") dx [("own_letters", .str (sg (p.lt)))]) = H2 at *
    refine comp_w walk_str (fun D i H' => H' = upd H2 D (.lst ((cnts (p.lt) (min i n)).map V.int))) (fun D nD => by rw [Nat.zero_min]; rfl) (fun _ _ _ _ _ _ => True.intro) ?_ ?_
    · rintro D i y H' H3 nD hi rfl ⟨rfl, c, hc, rfl⟩
      have ec : c = 97 + i := abcd_at hc
      subst ec
      have hi4 : i < 4 := hi
      have h2D := upd_new (o := .lst ((cnts (p.lt) (min i n)).map V.int)) nD h2
      walk_at "vc"
      refine ⟨_, dx, _, h2D, T.k_Weave, T.a_Weave_own_letters, _, rfl, ?_⟩
      walk_at "vc"
      rw [sg_cps]
      refine ⟨_, rfl, if_d (fun e => ?_) (fun e => ?_)⟩
      · have hin : i < n := by
          rcases Nat.lt_or_ge i n with h | h
          · exact h
          · have := hW.no i h hi4
            have := List.count_pos_iff.mpr e
            omega
        refine ⟨_, dx, _, h2D, T.k_Weave, T.a_Weave_own_letters, _, rfl, rfl, _, rfl, _, upd_same, ?_, ?_⟩
        · rw [List.length_map]
          unfold cnts
          rw [List.length_map, List.length_range]
          exact lt_size (by omega)
        · rw [upd_upd, count_sign, Nat.min_eq_left (by omega), Nat.min_eq_left (by omega), cnts_succ, List.map_append]
          rfl
      · have hin : n ≤ i := by
          rcases Nat.lt_or_ge i n with h | h
          · have := hW.lo i h
            exact absurd (List.count_pos_iff.mp (by omega)) e
          · exact h
        rw [Nat.min_eq_right hin, Nat.min_eq_right (by omega)]
    · rintro D H' nD rfl
      walk_at "vc"
      have e4 : (Str.ofString "abcd").cps.size = 4 := by decide +kernel
      rw [e4, Nat.min_eq_right hW.n4]
      refine ⟨_, sqL_of upd_same, fun l nl => ?_⟩
      have h3 := upd_new (o := .tup ((cnts (p.lt) n).map V.int)) nl (upd_new (o := .lst ((cnts (p.lt) n).map V.int)) nD h2)
      refine ⟨_, dx, _, h3, T.k_Weave, T.a_Weave_own_shape, by show 1 < 1000; decide, ?_⟩
      refine q _ ((b2.new nD).new nl).at ⟨dx, l, upd_same, upd_at ?_ upd_same⟩
      exact (ne_of_none (upd_new nD h2) nl).symm)
/-- a new weave, wherever it is made -/
theorem weave_do {p : Pts} {n : Nat} {H : Hp} {Q : Addr → Hp → Prop} (hok : p.ok) (hh : p.ht ≤ 8) (hl : p.tx.length ≤ 9000) (hW : WOk (p.lt) n) (q : ∀ x H', Same H H' → H x = none → shp K H' x (p.lt) n → Q x H') :
    ∀ x dx, H x = none → H dx = none → dx ≠ x → sp_Weave___init__ K [.ref x, .str (sg p.tx)] (upd (upd H dx (.own x)) x (.ins (He.ga K "Weave") dx [])) (fun v H2 => v = .non ∧ Q x H2) E0 :=
  fun x dx nx ndx ne => ⟨x, dx, p, n, rfl, upd_same, hok, hh, hl, hW, fun H' b s => ⟨rfl, q x H' (fun y o h => b y o (ne_of_none h nx) (upd_at (ne_of_none h nx) (upd_new ndx h))) nx s⟩⟩
def sp_Weave_letters (K : PySem.W.Frag) : Sp := fun vs H Q _ => ∃ (x : Addr) (l : List Nat) (n : Nat), vs = [.ref x] ∧ shp K H x l n ∧ Q (.str (sg l)) H
theorem O_Weave_letters (T : Txt K mg) : OkM P w K mg base CX0 1 (gpa K (He.ga K "Weave") "letters") ["self"] (sp_Weave_letters K) :=
  OkM.mk0 T.f_Weave_letters sc_Weave_letters (by rintro vs H Q E ⟨_, _, _, rfl, _⟩; rfl) (fun _ _ _ _ _ _ us hl => match us, hl with | [_], _ => rfl) (fun f cdv A outer s H vs Q E hr h => by
    obtain ⟨x, l, n, rfl, ⟨dx, sh, hx, hs⟩, q⟩ := h
    refine ⟨_, (pss_one (ps_ret (fldK K (pv 0)))), ?_⟩
    walk_at "vc"
    exact ⟨_, dx, _, hx, T.k_Weave, T.a_Weave_own_letters, _, rfl, q⟩)
def sp_Weave_shape (K : PySem.W.Frag) : Sp := fun vs H Q _ => ∃ (x : Addr) (l : List Nat) (n : Nat), vs = [.ref x] ∧ shp K H x l n ∧ ∀ sh, H sh = some (.tup ((cnts l n).map V.int)) → Q (.ref sh) H
theorem O_Weave_shape (T : Txt K mg) : OkM P w K mg base CX0 1 (gpa K (He.ga K "Weave") "shape") ["self"] (sp_Weave_shape K) :=
  OkM.mk0 T.f_Weave_shape sc_Weave_shape (by rintro vs H Q E ⟨_, _, _, rfl, _⟩; rfl) (fun _ _ _ _ _ _ us hl => match us, hl with | [_], _ => rfl) (fun f cdv A outer s H vs Q E hr h => by
    obtain ⟨x, l, n, rfl, ⟨dx, sh, hx, hs⟩, q⟩ := h
    refine ⟨_, (pss_one (ps_ret (fldK K (pv 0)))), ?_⟩
    walk_at "vc"
    exact ⟨_, dx, _, hx, T.k_Weave, T.a_Weave_own_shape, _, rfl, q sh hs⟩)

end
section
variable {P : Program} {w : World} {K : PySem.W.Frag} {mg : Str → Option Value} {base : Heap}
theorem Q_Weave_letters (T : Txt K mg) : OkM P w K mg base CX0 1 (gpa K (He.ga K "Weave") "letters") ["self"] (spP K 1 sq_Weave_letters) :=
  okPM T.f_Weave_letters sc_Weave_letters (fun _ _ _ _ _ _ us hl => match us, hl with | [_], _ => rfl) fun f cdv A outer s H E hr => ⟨_, _, (pss_one (ps_ret (fldK K (pv 0)))), inferInstance, fun ds c Q hl h => by
    obtain ⟨l, n, rfl, q⟩ := h
    rw [dW_eq]
    walk_at "pl"
    exact ⟨T.k_Weave, T.a_Weave_own_letters, q⟩⟩
theorem Q_Weave_shape (T : Txt K mg) : OkM P w K mg base CX0 1 (gpa K (He.ga K "Weave") "shape") ["self"] (spP K 1 sq_Weave_shape) :=
  okPM T.f_Weave_shape sc_Weave_shape (fun _ _ _ _ _ _ us hl => match us, hl with | [_], _ => rfl) fun f cdv A outer s H E hr => ⟨_, _, (pss_one (ps_ret (fldK K (pv 0)))), inferInstance, fun ds c Q hl h => by
    obtain ⟨l, n, rfl, q⟩ := h
    rw [dW_eq]
    walk_at "pl"
    exact ⟨T.k_Weave, T.a_Weave_own_shape, _, by rfl, q⟩⟩
theorem Q_require_weave (T : Txt K mg) : Ok P w K mg base CX0 1 "require_weave" ["value"] (spP K 1 sq_require_weave) :=
  okP T.f_require_weave T.g_require_weave sc_require_weave (fun _ _ _ _ _ _ us hl => match us, hl with | [_], _ => rfl) fun f cdv A outer s H E hr => ⟨_, _, (pss_one (ps_if (pt_not (pt_val (pe_callB (isi K) (by rfl) T.n_isinstance (by decide +kernel) (pa_cons (pv 0) (pa_cons (pe_glob (v := .ref (He.ga K "Weave")) rfl T.g_Weave rfl) pa_nil))))) (pss_one ps_never) pss_nil)), inferInstance, fun ds c Q hl h => by
    obtain ⟨l, n, rfl, q⟩ := h
    rw [dW_eq]
    walk_at "pl"
    exact ⟨T.i_Weave, T.k_Weave, q⟩⟩

/-- a new weave, from a text with numbers and brackets -/
def sq_Weave : PSp := fun ds c Q => ∃ (p : Pts) (n : Nat), ds = [.str (sg p.tx)] ∧ p.ok ∧ p.ht ≤ 8 ∧ p.tx.length ≤ 9000 ∧ WK.WOk p.lt n ∧ Q (dW p.lt n) c
instance mk_weave : MkP K (He.ga K "Weave") (sp_Weave___init__ K) 1 sq_Weave where
  run := fun vs H Q h => by
    obtain ⟨w1, c, ds, Qp, o, r, _, ⟨p, n, rfl, h1, h0, h2, h3, q⟩, kk⟩ := h
    obtain ⟨v, rfl, r1⟩ := RPs.one r
    rw [RP.str r1]
    exact weave_do (Q := fun x H' => Q (.ref x) H') h1 h0 h2 h3 fun x H' s nx hx => kk _ _ w1 c H' (same_le s) (same_ok o s) ((same_ok o s).weave hx (o.nz nx)) q
theorem weave_q {l : List Nat} {n : Nat} {c : Om} {Q : D → Om → Prop} (hW : WK.WOk l n) (q : Q (dW l n) c) : sq_Weave [.str (sg l)] c Q :=
  ⟨Pts.ofL l, n, by rw [Pts.ofL_tx], Pts.ofL_ok hW.al, by rw [Pts.ofL_ht]; decide, by rw [Pts.ofL_tx]; exact Nat.le_trans hW.le (by decide), by rw [Pts.ofL_lt]; exact hW, by rw [Pts.ofL_lt]; exact q⟩

/-! ### checks: the good cases -/
def isI : D → Bool
  | .int _ => true
  | _ => false
def sq_is_int : PSp := fun ds c Q => ∃ d, ds = [d] ∧ plainD d = true ∧ Q (.bl (isI d)) c
theorem Q_is_int (T : Txt K mg) : Ok P w K mg base CX0 1 "is_int" ["value"] (spP K 1 sq_is_int) :=
  okP T.f_is_int T.g_is_int sc_is_int (fun _ _ _ _ _ _ us hl => match us, hl with | [_], _ => rfl) fun f cdv A outer s H E hr => ⟨_, _, (pss_one (ps_ret (pe_and (pe_callB (isi K) (by rfl) T.n_isinstance (by decide +kernel) (pa_cons (pv 0) (pa_cons (pe_bltn (v := .ty "int") rfl T.n_int (by decide +kernel) rfl) pa_nil))) (pe_one (pe_not (pe_callB (isi K) (by rfl) T.n_isinstance (by decide +kernel) (pa_cons (pv 0) (pa_cons (pe_bltn (v := .ty "bool") rfl T.n_bool (by decide +kernel) rfl) pa_nil)))))))), inferInstance, fun ds c Q hl h => by
    obtain ⟨d, rfl, hp, q⟩ := h
    walk_at "pl"
    cases d <;> first | (cases hp; done) | (simp [plainQ, plainD, isTyD, tyD, isI] at q ⊢; exact q)⟩
theorem isI_int {i : Int} : isI (.int i) = true := rfl
theorem int_q {i : Int} {c : Om} {Q : D → Om → Prop} (q : Q (.bl true) c) : sq_is_int [.int i] c Q := ⟨_, rfl, rfl, q⟩

end
section
open WM
variable {P : Program} {w : World} {K : PySem.W.Frag} {mg : Str → Option Value} {base : Heap}
theorem sum_range (f : Nat → Int) : ∀ n : Nat, ((List.range n).map f).sum = sumI f n
  | 0 => rfl
  | n + 1 => by
    rw [List.range_succ, List.map_append, List.sum_append, sum_range f n, sumI]
    simp
/-- numbers up to 120 bits -/
structure Fit (b s t : Nat) : Prop where
  b0 : 1 ≤ b
  b1 : b ≤ 120
  s0 : 1 ≤ s
  s1 : (s : Int) ≤ 2 ^ b
  t1 : t ≤ b
theorem sz_add {i j : Int} {a : Nat} (hi : i.natAbs < 2 ^ a) (hj : j.natAbs < 2 ^ a) : (i + j).natAbs < 2 ^ (a + 1) := by
  rw [Nat.pow_succ]
  omega
theorem sz_sub {i j : Int} {a : Nat} (hi : i.natAbs < 2 ^ a) (hj : j.natAbs < 2 ^ a) : (i - j).natAbs < 2 ^ (a + 1) := by
  rw [Nat.pow_succ]
  omega
theorem sz_half {i : Int} {a : Nat} (hi : i.natAbs < 2 ^ a) : (i / 2).natAbs < 2 ^ a := by omega
theorem sz_mono {i : Int} {a b : Nat} (hi : i.natAbs < 2 ^ a) (h : a ≤ b) : i.natAbs < 2 ^ b := Nat.lt_of_lt_of_le hi (Nat.pow_le_pow_right (by decide) h)
theorem sz_pow {k : Nat} (h : k ≤ 120) : ((2 : Int) ^ k).natAbs < 2 ^ 121 := by
  rw [abs_pow]
  exact Nat.pow_lt_pow_right (by decide) (by omega)
theorem max_if (z : Int) : (if z > 0 then z else 0) = max 0 z := by
  split <;> omega
theorem div_le {i j : Int} (h0 : 0 ≤ i) (hj : 0 < j) : 0 ≤ i / j ∧ i / j ≤ i := ⟨Int.ediv_nonneg h0 (by omega), Int.ediv_le_self _ h0⟩
def sq_blocks_in : PSp := fun ds c Q => ∃ (b s t : Nat) (x : Int), ds = [.int (b : Int), .int x, .int (x + s - 1), .int (t : Int)] ∧ Fit b s t ∧ 0 ≤ x ∧ x + s ≤ 2 ^ b ∧ Q (.int (bkn (2 ^ (b - t)) x s)) c
theorem Q_blocks_in (T : Txt K mg) : Ok P w K mg base CX0 1 "blocks_in" ["bits", "low", "high", "told"] (spP K 4 sq_blocks_in) :=
  okP T.f_blocks_in T.g_blocks_in sc_blocks_in (fun _ _ _ _ _ _ us hl => match us, hl with | [_, _, _, _], _ => rfl) fun f cdv A outer s H E hr => ⟨_, _, (pss_cons (ps_set (i := 4) sc_blocks_in.nd rfl (.inl rfl) (pe_op op_oneShl pe_int (pe_op op_sub (pv 0) (pv 3))))
    (pss_one (ps_ret (pe_callB max2 (by rfl) T.n_max (by decide +kernel) (pa_cons pe_int (pa_cons (pe_op op_sub (pe_op op_fdivW (pe_op op_add (pv 2) pe_int) (pv 4)) (pe_op op_fdivW (pe_op op_sub (pe_op op_add (pv 1) (pv 4)) pe_int) (pv 4))) pa_nil)))))), inferInstance, fun ds c Q hl h => by
    obtain ⟨b, s, t, x, rfl, F, h0, h1, q⟩ := h
    walk_at "pl"
    obtain ⟨f1, f2, f3, f4, f5⟩ := F
    refine ⟨b - t, by omega, by omega, cdiv_pow (by omega), cdiv_pow (by omega), ?_⟩
    rw [max_if, show x + s - 1 + 1 = x + s by omega]
    exact q⟩
def sq_middles_in : PSp := fun ds c Q => ∃ (b s t : Nat) (x : Int), ds = [.int (b : Int), .int x, .int (x + s - 1), .int (t : Int)] ∧ Fit b s t ∧ t < b ∧ 0 ≤ x ∧ x + s ≤ 2 ^ b ∧ Q (.int (mdn (2 ^ (b - t - 1)) x s)) c
theorem Q_middles_in (T : Txt K mg) : Ok P w K mg base CX0 1 "middles_in" ["bits", "low", "high", "told"] (spP K 4 sq_middles_in) :=
  okP T.f_middles_in T.g_middles_in sc_middles_in (fun _ _ _ _ _ _ us hl => match us, hl with | [_, _, _, _], _ => rfl) fun f cdv A outer s H E hr => ⟨_, _, (pss_cons (ps_set (i := 4) sc_middles_in.nd rfl (.inl rfl) (pe_op op_oneShl pe_int (pe_op op_sub (pe_op op_sub (pv 0) (pv 3)) pe_int)))
    (pss_one (ps_ret (pe_op op_add (pe_op op_sub (pe_op op_sub (pe_op op_fdivW (pv 2) (pv 4)) (pe_op op_fdivW (pv 1) (pv 4))) (pe_op op_fdivW (pv 2) (pe_op op_mulX pe_int (pv 4)))) (pe_op op_fdivW (pv 1) (pe_op op_mulX pe_int (pv 4))))))), inferInstance, fun ds c Q hl h => by
    obtain ⟨b, s, t, x, rfl, F, ht, h0, h1, q⟩ := h
    walk_at "pl"
    obtain ⟨f1, f2, f3, f4, f5⟩ := F
    have hp := pow_pos' (b - t - 1)
    have e2 : (2 : Int) * 2 ^ (b - t - 1) = 2 ^ (b - t) := by rw [show b - t = (b - t - 1) + 1 by omega, Int.pow_succ, Int.mul_comm]; rfl
    have c1 : CMulX 2 (2 ^ (b - t - 1)) := mulx_ok (a := 2) (by decide) (sz_pow (by omega)) (by decide)
    refine ⟨b - t - 1, by omega, by omega, cdiv_pow (by omega), cdiv_pow (by omega), c1, by rw [e2]; exact cdiv_pow (by omega), c1, by rw [e2]; exact cdiv_pow (by omega), q⟩⟩

end
section
variable {P : Program} {w : World} {K : PySem.W.Frag} {mg : Str → Option Value} {base : Heap}
def sq_is_stretch : PSp := fun ds c Q => ∃ (b : Nat) (p : Int × Int), ds = [.int (b : Int), dPr p] ∧ 0 ≤ p.1 ∧ p.1 ≤ p.2 ∧ p.2 < 2 ^ b ∧ Q (.bl true) c
theorem Q_is_stretch (T : Txt K mg) : Ok P w K mg base CX0 2 "is_stretch" ["bits", "value"] (spP K 2 sq_is_stretch) :=
  okP T.f_is_stretch T.g_is_stretch sc_is_stretch (fun _ _ _ _ _ _ us hl => match us, hl with | [_, _], _ => rfl) fun f cdv A outer s H E hr => ⟨_, _, (pss_cons (ps_if (PW.pt (pw_or (pt_not (pt_val (pe_callB (isi K) (by rfl) T.n_isinstance (by decide +kernel) (pa_cons (pv 1) (pa_cons (pe_bltn (v := .ty "tuple") rfl T.n_tuple (by decide +kernel) rfl) pa_nil))))) (pw_or (pt_cmpR op_ne (pe_callB (lenU K) (by rfl) T.n_len (by decide +kernel) (pa_cons (pv 1) pa_nil)) pe_int (nomark _)) (pw_or (pt_not (pt_val (cal (Q_is_int (K := K) T) hr (pa_cons (pe_ix (ixT K) (pv 1) pe_int (fun _ _ => rfl)) pa_nil)))) (pw_or1 (pt_not (pt_val (cal (Q_is_int (K := K) T) hr (pa_cons (pe_ix (ixT K) (pv 1) pe_int (fun _ _ => rfl)) pa_nil))))))))) (pss_one (ps_ret pe_bl)) pss_nil)
    (pss_one (ps_ret (pe_and (pe_chain op_le op_le pe_int (pe_ix (ixT K) (pv 1) pe_int (fun _ _ => rfl)) (pe_ix (ixT K) (pv 1) pe_int (fun _ _ => rfl))) (pe_one (pe_cmpR op_eq (pe_op op_shrN (pe_ix (ixT K) (pv 1) pe_int (fun _ _ => rfl)) (pv 0)) pe_int (nomark _))))))), inferInstance, fun ds c Q hl h => by
    obtain ⟨b, ⟨lo, hi⟩, rfl, h0, h1, h2, q⟩ := h
    walk_at "pl"
    refine int_q ⟨_, rfl, if_f rfl (int_q ⟨_, rfl, if_f rfl (if_d (fun _ => if_d (fun _ => ⟨b, rfl, ?_⟩) fun e => absurd h1 e) fun e => absurd h0 e)⟩)⟩
    rw [decide_eq_true (Int.ediv_eq_zero_of_lt (Int.le_trans h0 h1) h2)]
    exact q⟩

theorem ShOk.nn {sh : List Int} (h : ShOk sh) : ∀ b ∈ sh, 0 ≤ b := fun b hb => by
  have := (h.bt b hb).1
  omega

/-! ### boxes of a shape: the good case -/
def sq_is_box_of : PSp := fun ds c Q => ∃ (sh : List Int) (bx : List (Int × Int)), ds = [dSh sh, dBox bx] ∧ ShOk sh ∧ BoxSh sh bx ∧ Q (.bl true) c
theorem Q_is_box_of (T : Txt K mg) : Ok P w K mg base CX0 3 "is_box_of" ["shape", "value"] (spP K 2 sq_is_box_of) :=
  okP T.f_is_box_of T.g_is_box_of sc_is_box_of (fun _ _ _ _ _ _ us hl => match us, hl with | [_, _], _ => rfl) fun f cdv A outer s H E hr => ⟨_, _, (pss_cons (ps_if (PW.pt (pw_or (pt_not (pt_val (pe_callB (isi K) (by rfl) T.n_isinstance (by decide +kernel) (pa_cons (pv 1) (pa_cons (pe_bltn (v := .ty "tuple") rfl T.n_tuple (by decide +kernel) rfl) pa_nil))))) (pw_or1 (pt_cmpR op_ne (pe_callB (lenU K) (by rfl) T.n_len (by decide +kernel) (pa_cons (pv 1) pa_nil)) (pe_callB (lenU K) (by rfl) T.n_len (by decide +kernel) (pa_cons (pv 0) pa_nil)) (nomark _))))) (pss_one (ps_ret pe_bl)) pss_nil)
    (pss_one (ps_ret (pe_callB (allL K) (by rfl) T.n_all (by decide +kernel) (pa_cons (pe_lc (own := [("bits", 2), ("stretch", 3)]) (g := (gTup K 2 (gCons (gName 2) (gCons (gName 3) gNil)))) rfl sc_is_box_of.nd (piZipT K T.n_zip (pa_cons (pv 0) (pa_cons (pv 1) pa_nil))) (blkOk_by (N := N_is_box_of) (sc := defScope s_is_box_of) (by decide +kernel)) (fun _ _ _ _ _ => (pgTup K (n := 2) (pgs_cons (pg_name (i := 2) sc_is_box_of.nd rfl (.inl rfl)) (pgs_cons (pg_name (i := 3) sc_is_box_of.nd rfl (.inl rfl)) pgs_nil)))) (fun _ _ _ _ _ => pts_nil) (fun _ _ _ _ _ => (cal (Q_is_stretch (K := K) T) hr (pa_cons (pv 2) (pa_cons (pv 3) pa_nil))))) pa_nil))))), inferInstance, fun ds c Q hl h => by
    obtain ⟨sh, bx, rfl, hs, hb, q⟩ := h
    have h4 := hs.n4
    walk_at "pl"
    have hn := hb.len
    refine if_nd (fun e => absurd (congrArg (fun n : Nat => (n : Int)) hn) e) fun _ => ?_
    rw [zipD_map]
    refine pcomp_f (g := fun _ => .bl true) (by rw [List.length_zip]; omega) (fun i e R he hR => ?_) ⟨(sh.zip bx).map fun _ => true, by rw [List.map_map]; rfl, ?_⟩
    · obtain ⟨e1, e2⟩ := List.getElem?_zip_eq_some.mp he
      have hi := (List.getElem?_eq_some_iff.mp e1).1
      have g : bx.getD i (0, 0) = e.2 := by rw [List.getD_eq_getElem?_getD, e2]; rfl
      have g1 : sh.getD i 0 = e.1 := by rw [List.getD_eq_getElem?_getD, e1]; rfl
      have h0 := hb.lo i hi
      have h1 := hb.le i hi
      have h2 := hb.hi i hi
      have hb1 := hs.at hi
      rw [g] at h0 h1 h2
      rw [g1] at h2 hb1
      walk_at "pl"
      exact ⟨e.1.toNat, e.2, by rw [show ((e.1.toNat : Nat) : Int) = e.1 by omega]; rfl, h0, h1, h2, hR⟩
    · rw [show ((sh.zip bx).map fun _ => true).all id = true by rw [List.all_map]; exact List.all_eq_true.mpr fun _ _ => rfl]
      exact q⟩
def sq_require_box : PSp := fun ds c Q => ∃ (sh : List Int) (bx : List (Int × Int)), ds = [dSh sh, dBox bx] ∧ ShOk sh ∧ BoxSh sh bx ∧ Q .non c
theorem Q_require_box (T : Txt K mg) : Ok P w K mg base CX0 4 "require_box" ["shape", "value"] (spP K 2 sq_require_box) :=
  okP T.f_require_box T.g_require_box sc_require_box (fun _ _ _ _ _ _ us hl => match us, hl with | [_, _], _ => rfl) fun f cdv A outer s H E hr => ⟨_, _, (pss_one (ps_if (pt_not (pt_val (cal (Q_is_box_of (K := K) T) hr (pa_cons (pv 0) (pa_cons (pv 1) pa_nil))))) (pss_one ps_never) pss_nil)), inferInstance, fun ds c Q hl h => by
    obtain ⟨sh, bx, rfl, hsh, hb, q⟩ := h
    walk_at "pl"
    exact ⟨sh, bx, rfl, hsh, hb, _, rfl, q⟩⟩

end
section
open WQ WM
variable {P : Program} {w : World} {K : PySem.W.Frag} {mg : Str → Option Value} {base : Heap}
theorem int_row {lv : List Int} {n : Nat} (h : lv.length = n) : lv.map D.int = (List.range n).map fun k => D.int (lv.getD k 0) := by
  subst h
  refine List.ext_getElem? fun i => ?_
  rw [List.getElem?_map, List.getElem?_map]
  by_cases hi : i < lv.length
  · rw [List.getElem?_range hi, List.getElem?_eq_getElem hi]
    show some (D.int lv[i]) = some (D.int (lv.getD i 0))
    rw [List.getD_eq_getElem?_getD, List.getElem?_eq_getElem hi]
    rfl
  · rw [List.getElem?_eq_none (by omega), List.getElem?_eq_none (by rw [List.length_range]; omega)]
    rfl
theorem mem_rng {n i k : Nat} (h : (List.range n)[i]? = some k) : k < n ∧ k = i := by
  have hi := (List.getElem?_eq_some_iff.mp h).1
  rw [List.length_range] at hi
  rw [List.getElem?_range hi] at h
  cases h
  exact ⟨hi, rfl⟩
theorem enum_int (sh : List Int) : zipD (rangeD 0 sh.length) (sh.map D.int) = (List.range sh.length).map fun j => .tup [.int ((j : Nat) : Int), .int (sh.getD j 0)] := by rw [int_row rfl, enum_range]

theorem lv_path {l : List Nat} {sh : List Int} (hW : WK.WOk l sh.length) (hc : cnts l sh.length = sh) {j : Nat} (hj : j < l.length) :
    LvOk sh (cnts (l.take j) sh.length) ∧ l.getD j 0 - 97 < sh.length ∧ (cnts (l.take j) sh.length).getD (l.getD j 0 - 97) 0 < sh.getD (l.getD j 0 - 97) 0 := by
  have g : ∀ (t : List Nat) (k : Nat), k < sh.length → (cnts t sh.length).getD k 0 = (t.count (97 + k) : Int) := fun t k hk => by
    rw [List.getD_eq_getElem?_getD, cnts_at hk]
    rfl
  have gs : ∀ k, k < sh.length → sh.getD k 0 = (l.count (97 + k) : Int) := fun k hk => by
    rw [← g l k hk, hc]
  obtain ⟨c1, c2⟩ := hW.rng (l.getD j 0) (by rw [List.getD_eq_getElem?_getD, List.getElem?_eq_getElem hj]; exact List.getElem_mem hj)
  refine ⟨⟨cnts_len _ _, fun k hk => by rw [g _ k hk]; omega, fun k hk => ?_⟩, by omega, ?_⟩
  · rw [g _ k hk, gs k hk]
    have := List.Sublist.count_le (97 + k) (List.take_sublist j l)
    omega
  · rw [g _ _ (by omega), gs _ (by omega), show 97 + (l.getD j 0 - 97) = l.getD j 0 by omega]
    have e : l = l.take j ++ l.getD j 0 :: l.drop (j + 1) := by
      rw [List.getD_eq_getElem?_getD, List.getElem?_eq_getElem hj]
      show l = l.take j ++ l[j] :: l.drop (j + 1)
      rw [← List.drop_eq_getElem_cons hj, List.take_append_drop]
    have := congrArg (List.count (l.getD j 0)) e
    rw [List.count_append, List.count_cons_self] at this
    omega

/-! ### ranges counted by the pairs of steps -/
theorem bk_q {b t : Nat} {lo hi : Int} {c : Om} {Q : D → Om → Prop} (b0 : 1 ≤ b) (b1 : b ≤ 120) (ht : t ≤ b) (h : ApOk b (.st lo hi)) (q : Q (.int (bkF b (.st lo hi) t)) c) : sq_blocks_in [.int (b : Int), .int lo, .int hi, .int (t : Int)] c Q := by
  obtain ⟨h0, h1, h2⟩ := h
  obtain ⟨s, hs⟩ : ∃ s : Nat, hi = lo + s - 1 := ⟨(hi - lo + 1).toNat, by omega⟩
  subst hs
  have g1 : bkF b (.st lo (lo + s - 1)) t = bkn (2 ^ (b - t)) lo s := by show bkn _ lo (lo + s - 1 - lo + 1) = _; rw [show lo + (s : Int) - 1 - lo + 1 = s by omega]
  exact ⟨b, s, t, lo, rfl, ⟨b0, b1, by omega, by omega, ht⟩, h0, by omega, by rw [← g1]; exact q⟩
theorem md_q {b t : Nat} {lo hi : Int} {c : Om} {Q : D → Om → Prop} (b0 : 1 ≤ b) (b1 : b ≤ 120) (ht : t < b) (h : ApOk b (.st lo hi)) (q : Q (.int (mdF b (.st lo hi) t)) c) : sq_middles_in [.int (b : Int), .int lo, .int hi, .int (t : Int)] c Q := by
  obtain ⟨h0, h1, h2⟩ := h
  obtain ⟨s, hs⟩ : ∃ s : Nat, hi = lo + s - 1 := ⟨(hi - lo + 1).toNat, by omega⟩
  subst hs
  have g1 : mdF b (.st lo (lo + s - 1)) t = mdn (2 ^ (b - t - 1)) lo s := by show mdn _ lo (lo + s - 1 - lo + 1) = _; rw [show lo + (s : Int) - 1 - lo + 1 = s by omega]
  exact ⟨b, s, t, lo, rfl, ⟨b0, b1, by omega, by omega, by omega⟩, ht, h0, by omega, by rw [← g1]; exact q⟩
theorem mul_size {i j : Int} (h : i.natAbs < 2 ^ 2000) (h' : j.natAbs < 2 ^ 400) : CMulX i j := mulx_ok (a := 2000) (b := 400) h h' (by decide)
theorem one_ok {sh : List Int} {bx : List (Int × Int)} (hb : BoxSh sh bx) : QyOk sh ⟨1, .inl bx⟩ := ⟨by show (1 : Int) ≤ 1; decide, by show (1 : Int) ≤ 1000000000000000000000000000000; decide, hb⟩
def sq_axes_of : PSp := fun ds c Q => ∃ l : List Nat, ds = [.str (sg l)] ∧ (∀ c ∈ l, 97 ≤ c ∧ c ≤ 100) ∧ l.length ≤ 240 ∧ Q (.lst (l.map fun c => .int ((c - 97 : Nat) : Int))) c
theorem Q_axes_of (T : Txt K mg) : Ok P w K mg base CX0 1 "axes_of" ["letters"] (spP K 1 sq_axes_of) :=
  okP T.f_axes_of T.g_axes_of sc_axes_of (fun _ _ _ _ _ _ us hl => match us, hl with | [_], _ => rfl) fun f cdv A outer s H E hr => ⟨_, _, (pss_one (ps_ret (pe_lc (own := [("letter", 1)]) (g := (gName 1)) rfl sc_axes_of.nd (pi_str (pv 0)) (blkOk_by (N := N_axes_of) (sc := defScope s_axes_of) (by decide +kernel)) (fun _ _ _ _ _ => (pg_name (i := 1) sc_axes_of.nd rfl (.inl rfl))) (fun _ _ _ _ _ => pts_nil) (fun _ _ _ _ _ => (bmK K PySem.F.plainAttrs_str PySem.F.slot_str_index PySem.F.type_str_index mt_sindex (pe_gstr T.c_AXES) (pa_cons (pv 1) pa_nil)))))), inferInstance, fun ds c Q hl h => by
    obtain ⟨l, rfl, hal, h240, q⟩ := h
    walk_at "pl"
    refine pcomp_f (f := fun c : Nat => D.str ⟨#[c]⟩) (g := fun c => .int ((c - 97 : Nat) : Int)) (by omega) (fun i e R he hR => ?_) q
    obtain ⟨c1, c2⟩ := hal e (List.mem_of_getElem? he)
    walk_at "pl"
    exact ⟨e - 97, _, abcd_index c1 c2, hR⟩⟩
def sq_pairs_at : PSp := fun ds c Q => ∃ (sh lv : List Int) (bx : List (Int × Int)) (a : Nat), ds = [dSh sh, dBox bx, .lst (lv.map .int), .int (a : Int)] ∧ ShOk sh ∧ BoxSh sh bx ∧ LvOk sh lv ∧ a < sh.length ∧ lv.getD a 0 < sh.getD a 0 ∧ Q (.int (prs sh ⟨1, .inl bx⟩ lv a)) c
theorem Q_pairs_at (T : Txt K mg) : Ok P w K mg base CX0 2 "pairs_at" ["shape", "box", "told", "axis"] (spP K 4 sq_pairs_at) :=
  okP T.f_pairs_at T.g_pairs_at sc_pairs_at (fun _ _ _ _ _ _ us hl => match us, hl with | [_, _, _, _], _ => rfl) fun f cdv A outer s H E hr => ⟨_, _, (pss_cons (ps_set (i := 4) sc_pairs_at.nd rfl (.inl rfl) pe_int)
    (pss_cons (ps_for PassesOwn.never rfl (piEnumT K T.n_enumerate (pa_cons (pv 0) pa_nil)) (pgTup K (n := 2) (pgs_cons (pg_name (i := 5) sc_pairs_at.nd rfl (.inl rfl)) (pgs_cons (pg_name (i := 6) sc_pairs_at.nd rfl (.inl rfl)) pgs_nil))) (pss_cons (ps_asg (pe_ix (ixT K) (pv 1) (pv 5) (fun _ _ => rfl)) (pgTup K (n := 2) (pgs_cons (pg_name (i := 7) sc_pairs_at.nd rfl (.inl rfl)) (pgs_cons (pg_name (i := 8) sc_pairs_at.nd rfl (.inl rfl)) pgs_nil))))
    (pss_one (ps_if (pt_cmpR op_eq (pv 5) (pv 3) (nomark _)) (pss_one (ps_set (i := 4) sc_pairs_at.nd rfl (.inl rfl) (pe_op op_mulX (pv 4) (cal (Q_middles_in (K := K) T) hr (pa_cons (pv 6) (pa_cons (pv 7) (pa_cons (pv 8) (pa_cons (pe_ix (ixL K) (pv 2) (pv 5) (fun _ _ => rfl)) pa_nil)))))))) (pss_one (ps_set (i := 4) sc_pairs_at.nd rfl (.inl rfl) (pe_op op_mulX (pv 4) (cal (Q_blocks_in (K := K) T) hr (pa_cons (pv 6) (pa_cons (pv 7) (pa_cons (pv 8) (pa_cons (pe_ix (ixL K) (pv 2) (pv 5) (fun _ _ => rfl)) pa_nil))))))))))))
    (pss_one (ps_ret (pv 4))))), inferInstance, fun ds c Q hl h => by
    obtain ⟨sh, lv, bx, a, rfl, hs, hb, hlv, ha, hla, q⟩ := h
    have n4 := hs.n4
    have hq : QyOk sh ⟨1, .inl bx⟩ := one_ok hb
    walk_at "pl"
    rw [enum_int]
    refine ploop_m (fun i ρ' c' => ∃ y5 y6 y7 y8 : Option Sl, ρ' = [some (.val (dSh sh)), some (.val (dBox bx)), some (.val (.lst (lv.map .int))), some (.val (.int (a : Int))), some (.val (.int (prodI ((List.range i).map (prf sh ⟨1, .inl bx⟩ lv a))))), y5, y6, y7, y8] ∧ c' = c) ⟨none, none, none, none, rfl, rfl⟩ ?_ ?_
    · rintro i k ρ' c' hk ⟨y5, y6, y7, y8, rfl, rfl⟩
      obtain ⟨hkl, ek⟩ := mem_rng hk
      subst ek
      clear hk
      have hk := hkl
      obtain ⟨b0, b1⟩ := hs.bt (sh.getD k 0) (by rw [List.getD_eq_getElem?_getD, List.getElem?_eq_getElem hk]; exact List.getElem_mem hk)
      have eb : ((bt sh k : Nat) : Int) = sh.getD k 0 := by unfold bt; omega
      obtain ⟨v0, v1⟩ := hlv.at hk
      have hap := hq.ap hk
      have hbk : k < bx.length := by rw [hb.len]; exact hk
      have hlk : k < lv.length := by rw [hlv.len]; exact hk
      walk_at "pl"
      refine ⟨_, at_pr hbk, ?_⟩
      have fs : ∀ j, j < sh.length → (prf sh ⟨1, .inl bx⟩ lv a j).natAbs < 2 ^ 400 := fun j hj => by
        obtain ⟨b0, b1⟩ := hs.bt (sh.getD j 0) (by rw [List.getD_eq_getElem?_getD, List.getElem?_eq_getElem hj]; exact List.getElem_mem hj)
        obtain ⟨u0, u1⟩ := hlv.at hj
        have hjb : bt sh j ≤ 120 := by unfold bt; omega
        unfold prf
        split
        · rename_i e
          subst e
          exact mdF_size hjb (by unfold lvn bt; have := hlv.lo j hj; omega) (hq.ap hj)
        · exact bkF_size hjb u1 (hq.ap hj)
      have ps := prodI_size (k := 400) ((List.range k).map (prf sh ⟨1, .inl bx⟩ lv a)) fun x hx => by
        obtain ⟨j, hj, rfl⟩ := List.mem_map.mp hx
        exact fs j (by have := List.mem_range.mp hj; omega)
      rw [List.length_map, List.length_range] at ps
      have fk := fs k hk
      have ek : prodI ((List.range (k + 1)).map (prf sh ⟨1, .inl bx⟩ lv a)) = prodI ((List.range k).map (prf sh ⟨1, .inl bx⟩ lv a)) * prf sh ⟨1, .inl bx⟩ lv a k := by
        rw [List.range_succ, List.map_append, List.map_cons, List.map_nil, prodI_snoc]
      rw [ek]
      walk_at "pl"
      refine if_d (fun e => ?_) fun e => ?_
      · have e : k = a := by omega
        have ep : prf sh ⟨1, .inl bx⟩ lv a k = mdF (bt sh k) (apk ⟨1, .inl bx⟩ k) (lvn lv k) := if_pos e
        rw [ep] at fk ⊢
        subst e
        refine ⟨_, at_int hlk, ?_⟩
        rw [← eb, ← v0]
        exact md_q (by omega) (by omega) (by unfold lvn bt; omega) hap ⟨_, rfl, mulx_ok (a := 1601) (b := 400) (qz_mono ps (by omega)) fk (by decide), rfl, rfl⟩
      · have e : ¬ k = a := by omega
        have ep : prf sh ⟨1, .inl bx⟩ lv a k = bkF (bt sh k) (apk ⟨1, .inl bx⟩ k) (lvn lv k) := if_neg e
        rw [ep] at fk ⊢
        refine ⟨_, at_int hlk, ?_⟩
        rw [← eb, ← v0]
        exact bk_q (by omega) (by omega) v1 hap ⟨_, rfl, mulx_ok (a := 1601) (b := 400) (qz_mono ps (by omega)) fk (by decide), rfl, rfl⟩
    · rintro ρ' c' ⟨y5, y6, y7, y8, rfl, rfl⟩
      walk_at "pl"
      exact q⟩
def prL (sh : List Int) (bx : List (Int × Int)) (l : List Nat) (j : Nat) : Int := prs sh ⟨1, .inl bx⟩ (cnts (l.take j) sh.length) (l.getD j 0 - 97)
def sq_pairs_of : PSp := fun ds c Q => ∃ (sh : List Int) (bx : List (Int × Int)) (l : List Nat), ds = [dW l sh.length, dBox bx] ∧ ShOk sh ∧ BoxSh sh bx ∧ WK.WOk l sh.length ∧ cnts l sh.length = sh ∧ Q (.lst ((List.range l.length).map fun j => .int (prL sh bx l j))) c
theorem Q_pairs_of (T : Txt K mg) : Ok P w K mg base CX0 3 "pairs_of" ["weave", "box"] (spP K 2 sq_pairs_of) :=
  okP T.f_pairs_of T.g_pairs_of sc_pairs_of (fun _ _ _ _ _ _ us hl => match us, hl with | [_, _], _ => rfl) fun f cdv A outer s H E hr => ⟨_, _, (pss_cons (ps_set (i := 2) sc_pairs_of.nd rfl (.inl rfl) (pe_own (pe_op op_rep (pe_lst (pa_cons pe_int pa_nil)) (pe_callB (lenU K) (by rfl) T.n_len (by decide +kernel) (pa_cons (fldK K (pv 0)) pa_nil)))))
    (pss_cons (ps_set (i := 3) sc_pairs_of.nd rfl (.inl rfl) (pe_own (pe_lst pa_nil)))
    (pss_cons (ps_for PassesOwn.never rfl (piL K (cal (Q_axes_of (K := K) T) hr (pa_cons (fldK K (pv 0)) pa_nil))) (pg_name (i := 4) sc_pairs_of.nd rfl (.inl rfl)) (pss_cons (ps_expr (bmK K PySem.F.plainAttrs_list PySem.F.slot_list_append PySem.F.type_list_append mt_append (pv 3) (pa_cons (pe_bor 2 (cal (Q_pairs_at (K := K) T) hr (pa_cons (fldK K (pv 0)) (pa_cons (pv 1) (pa_cons (pv 2) (pa_cons (pv 4) pa_nil)))))) pa_nil)))
    (pss_one (ps_asg (pe_op op_add (pe_ix (ixL K) (pv 2) (pv 4) (fun _ _ => rfl)) pe_int) (pg_sub (pv 2) (pv 4) set_list)))))
    (pss_one (ps_frz 3 (ps_ret (pv 3))))))), inferInstance, fun ds c Q hl h => by
    obtain ⟨sh, bx, l, rfl, hs, hb, hW, hc, q⟩ := h
    have n4 := hs.n4
    have h240 := hW.le
    rw [dW_eq]
    have ez : (List.replicate sh.length [D.int 0]).flatten = (cnts (l.take 0) sh.length).map .int := by
      rw [List.take_zero, cnts_nil, List.map_replicate]
      exact flat_one _ _
    walk_at "pl"
    refine ⟨T.k_Weave, T.a_Weave_own_shape, _, rfl, sh.length, by rw [lenD_tup, List.length_map, cnts_len], by omega, by omega, by omega, T.k_Weave, T.a_Weave_own_letters, l, rfl, hW.al, h240, _, rfl, ?_⟩
    rw [ez]
    refine ploop_m (f := fun c : Nat => D.int ((c - 97 : Nat) : Int)) (fun i ρ' c' => ∃ y4 : Option Sl, ρ' = [some (.val (dW l sh.length)), some (.val (dBox bx)), some (.own ((cnts (l.take i) sh.length).map .int)), some (.own ((List.range i).map fun j => .int (prL sh bx l j))), y4] ∧ c' = c) ⟨none, rfl, rfl⟩ ?_ ?_
    · rintro i e ρ' c' he ⟨y4, rfl, rfl⟩
      have hi := (List.getElem?_eq_some_iff.mp he).1
      have hge : l.getD i 0 = e := by rw [List.getD_eq_getElem?_getD, he]; rfl
      obtain ⟨hlv, l1, l2⟩ := lv_path hW hc hi
      obtain ⟨c1, c2⟩ := hW.rng e (List.mem_of_getElem? he)
      rw [hge] at l1 l2
      rw [dW_eq]
      walk_at "pl"
      refine ⟨T.k_Weave, T.a_Weave_own_shape, _, rfl, sh, _, bx, e - 97, by rw [hc]; rfl, hs, hb, hlv, l1, l2, rfl, by omega, _, at_int (by rw [cnts_len]; exact l1), _, rfl, e - 97, ixN_nat (by rw [cnts_len]; exact l1), ?_, ?_, rfl⟩
      · rw [take_snocG he, cnts_bump c1 c2]
        unfold WQ.bump
        rw [List.map_set]
      · unfold prL
        rw [List.range_succ, List.map_append, List.map_cons, List.map_nil, hge]
    · rintro ρ' c' ⟨y4, rfl, rfl⟩
      walk_at "pl"
      exact q⟩
def sq_cells_of : PSp := fun ds c Q => ∃ bx : List (Int × Int), ds = [dBox bx] ∧ bx.length ≤ 4 ∧ (∀ p ∈ bx, (p.2 - p.1 + 1).natAbs < 2 ^ 400) ∧ Q (.int (prodI (bx.map fun p => p.2 - p.1 + 1))) c
theorem Q_cells_of (T : Txt K mg) : Ok P w K mg base CX0 1 "cells_of" ["box"] (spP K 1 sq_cells_of) :=
  okP T.f_cells_of T.g_cells_of sc_cells_of (fun _ _ _ _ _ _ us hl => match us, hl with | [_], _ => rfl) fun f cdv A outer s H E hr => ⟨_, _, (pss_cons (ps_set (i := 1) sc_cells_of.nd rfl (.inl rfl) pe_int)
    (pss_cons (ps_for PassesOwn.never rfl (piT K (pv 0)) (pgTup K (n := 2) (pgs_cons (pg_name (i := 2) sc_cells_of.nd rfl (.inl rfl)) (pgs_cons (pg_name (i := 3) sc_cells_of.nd rfl (.inl rfl)) pgs_nil))) (pss_one (ps_set (i := 1) sc_cells_of.nd rfl (.inl rfl) (pe_op op_mulX (pv 1) (pe_op op_add (pe_op op_sub (pv 3) (pv 2)) pe_int)))))
    (pss_one (ps_ret (pv 1))))), inferInstance, fun ds c Q hl h => by
    obtain ⟨bx, rfl, h4, hx, q⟩ := h
    walk_at "pl"
    refine ploop_m (fun i ρ' c' => ∃ y2 y3 : Option Sl, ρ' = [some (.val (dBox bx)), some (.val (.int (prodI ((bx.take i).map fun p => p.2 - p.1 + 1)))), y2, y3] ∧ c' = c) ⟨none, none, rfl, rfl⟩ ?_ ?_
    · rintro i e ρ' c' he ⟨y2, y3, rfl, rfl⟩
      have hi := (List.getElem?_eq_some_iff.mp he).1
      have b1 := prodI_size (k := 400) ((bx.take i).map fun p => p.2 - p.1 + 1) fun x h => by
        obtain ⟨p, hp, rfl⟩ := List.mem_map.mp h
        exact hx p (List.mem_of_mem_take hp)
      walk_at "pl"
      refine ⟨mulx_ok (a := 1601) (b := 400) (qz_mono b1 (by rw [List.length_map, List.length_take]; omega)) (hx e (List.mem_of_getElem? he)) (by decide), ?_⟩
      rw [take_snocG he, List.map_append]
      exact (prodI_snoc _ _).symm
    · rintro ρ' c' ⟨y2, y3, rfl, rfl⟩
      walk_at "pl"
      rw [List.take_length]
      exact q⟩
def sq_number_of_ranges : PSp := fun ds c Q => ∃ (sh : List Int) (bx : List (Int × Int)) (l : List Nat), ds = [dW l sh.length, dBox bx] ∧ ShOk sh ∧ BoxSh sh bx ∧ WK.WOk l sh.length ∧ cnts l sh.length = sh ∧ Q (.int (nR sh bx l)) c
theorem box_side {sh : List Int} {bx : List (Int × Int)} (hs : ShOk sh) (hb : BoxSh sh bx) : ∀ p ∈ bx, (p.2 - p.1 + 1).natAbs < 2 ^ 400 := fun p hp => by
  obtain ⟨k, hk⟩ := List.getElem?_of_mem hp
  have hkl := (List.getElem?_eq_some_iff.mp hk).1
  rw [hb.len] at hkl
  have e : bx.getD k (0, 0) = p := by rw [List.getD_eq_getElem?_getD, hk]; rfl
  have h0 := hb.lo k hkl
  have h1 := hb.le k hkl
  have h2 := hb.hi k hkl
  rw [e] at h0 h1 h2
  obtain ⟨b0, b1⟩ := hs.bt (sh.getD k 0) (by rw [List.getD_eq_getElem?_getD, List.getElem?_eq_getElem hkl]; exact List.getElem_mem hkl)
  exact qz_mono (a := (sh.getD k 0).toNat + 1) (qz_sml (by omega) (by omega)) (by omega)
theorem Q_number_of_ranges (T : Txt K mg) : Ok P w K mg base CX0 4 "number_of_ranges" ["weave", "box"] (spP K 2 sq_number_of_ranges) :=
  okP T.f_number_of_ranges T.g_number_of_ranges sc_number_of_ranges (fun _ _ _ _ _ _ us hl => match us, hl with | [_, _], _ => rfl) fun f cdv A outer s H E hr => ⟨_, _, (pss_one (ps_ret (pe_op op_sub (cal (Q_cells_of (K := K) T) hr (pa_cons (pv 1) pa_nil)) (pe_callB (sumL K) (by rfl) T.n_sum (by decide +kernel) (pa_cons (cal (Q_pairs_of (K := K) T) hr (pa_cons (pv 0) (pa_cons (pv 1) pa_nil))) pa_nil))))), inferInstance, fun ds c Q hl h => by
    obtain ⟨sh, bx, l, rfl, hs, hb, hW, hc, q⟩ := h
    walk_at "pl"
    exact ⟨bx, rfl, by rw [hb.len]; exact hs.n4, box_side hs hb, sh, bx, l, rfl, hs, hb, hW, hc, (List.range l.length).map (prL sh bx l), by rw [List.map_map]; rfl, _, rfl, q⟩⟩
def sq_count_ranges : PSp := fun ds c Q => ∃ (sh : List Int) (bx : List (Int × Int)) (l : List Nat), ds = [dW l sh.length, dBox bx] ∧ ShOk sh ∧ BoxSh sh bx ∧ WK.WOk l sh.length ∧ cnts l sh.length = sh ∧ Q (.int (nR sh bx l)) c
theorem Q_count_ranges (T : Txt K mg) : Ok P w K mg base CX0 5 "count_ranges" ["weave", "box"] (spP K 2 sq_count_ranges) :=
  okP T.f_count_ranges T.g_count_ranges sc_count_ranges (fun _ _ _ _ _ _ us hl => match us, hl with | [_, _], _ => rfl) fun f cdv A outer s H E hr => ⟨_, _, (pss_cons (ps_expr (cal (Q_require_weave (K := K) T) hr (pa_cons (pv 0) pa_nil)))
    (pss_cons (ps_expr (cal (Q_require_box (K := K) T) hr (pa_cons (fldK K (pv 0)) (pa_cons (pv 1) pa_nil))))
    (pss_one (ps_ret (cal (Q_number_of_ranges (K := K) T) hr (pa_cons (pv 0) (pa_cons (pv 1) pa_nil))))))), inferInstance, fun ds c Q hl h => by
    obtain ⟨sh, bx, l, rfl, hs, hb, hW, hc, q⟩ := h
    walk_at "pl"
    exact ⟨_, _, _, dW_eq, T.k_Weave, T.a_Weave_own_shape, _, rfl, sh, bx, by rw [hc]; rfl, hs, hb, sh, bx, l, rfl, hs, hb, hW, hc, q⟩⟩

def sq_step_pairs : PSp := fun ds c Q => ∃ (sh : List Int) (bx : List (Int × Int)) (l : List Nat), ds = [dW l sh.length, dBox bx] ∧ ShOk sh ∧ BoxSh sh bx ∧ WK.WOk l sh.length ∧ cnts l sh.length = sh ∧ Q (.lst ((List.range l.length).map fun j => .int (prL sh bx l j))) c
theorem Q_step_pairs (T : Txt K mg) : Ok P w K mg base CX0 5 "step_pairs" ["weave", "box"] (spP K 2 sq_step_pairs) :=
  okP T.f_step_pairs T.g_step_pairs sc_step_pairs (fun _ _ _ _ _ _ us hl => match us, hl with | [_, _], _ => rfl) fun f cdv A outer s H E hr => ⟨_, _, (pss_cons (ps_expr (cal (Q_require_weave (K := K) T) hr (pa_cons (pv 0) pa_nil)))
    (pss_cons (ps_expr (cal (Q_require_box (K := K) T) hr (pa_cons (fldK K (pv 0)) (pa_cons (pv 1) pa_nil))))
    (pss_one (ps_ret (cal (Q_pairs_of (K := K) T) hr (pa_cons (pv 0) (pa_cons (pv 1) pa_nil))))))), inferInstance, fun ds c Q hl h => by
    obtain ⟨sh, bx, l, rfl, hs, hb, hW, hc, q⟩ := h
    walk_at "pl"
    exact ⟨_, _, _, dW_eq, T.k_Weave, T.a_Weave_own_shape, _, rfl, sh, bx, by rw [hc]; rfl, hs, hb, sh, bx, l, rfl, hs, hb, hW, hc, q⟩⟩

end
section
open WQ WM
variable {P : Program} {w : World} {K : PySem.W.Frag} {mg : Str → Option Value} {base : Heap}
/-! ### keys of cells, the cells of a box, one by one -/
def sq__law_key : PSp := fun ds c Q => ∃ (l : List Nat) (sh cs : List Int), ds = [.str (sg l), dSh sh, dSh cs] ∧ WK.WOk l sh.length ∧ cnts l sh.length = sh ∧ CellOk l sh.length cs ∧ Q (.int (keyN l cs l.length)) c
theorem Q__law_key (T : Txt K mg) : Ok P w K mg base CX0 1 "_law_key" ["_law_letters", "_law_sizes_here", "_law_numbers"] (spP K 3 sq__law_key) :=
  okP T.f__law_key T.g__law_key sc__law_key (fun _ _ _ _ _ _ us hl => match us, hl with | [_, _, _], _ => rfl) fun f cdv A outer s H E hr => ⟨_, _, (pss_cons (ps_par (i := 3) (j := 4) rfl sc__law_key.nd rfl rfl (by decide) rfl rfl (pa_cons (pe_own (pe_op op_rep (pe_lst (pa_cons pe_int pa_nil)) (pe_callB (lenU K) (by rfl) T.n_len (by decide +kernel) (pa_cons (pv 1) pa_nil)))) (pa_cons pe_int pa_nil)) (by rfl))
    (pss_cons (ps_for PassesOwn.never rfl (pi_str (pv 0)) (pg_name (i := 5) sc__law_key.nd rfl (.inl rfl)) (pss_cons (ps_set (i := 6) sc__law_key.nd rfl (.inl rfl) (bmK K PySem.F.plainAttrs_str PySem.F.slot_str_find PySem.F.type_str_find mt_sfind pe_str (pa_cons (pv 5) pa_nil)))
    (pss_cons (ps_asg (pe_op op_add (pe_ix (ixL K) (pv 3) (pv 6) (fun _ _ => rfl)) pe_int) (pg_sub (pv 3) (pv 6) set_list))
    (pss_cons (ps_set (i := 7) sc__law_key.nd rfl (.inl rfl) (pe_op op_shrN (pe_ix (ixT K) (pv 2) (pv 6) (fun _ _ => rfl)) (pe_op op_sub (pe_ix (ixT K) (pv 1) (pv 6) (fun _ _ => rfl)) (pe_ix (ixL K) (pv 3) (pv 6) (fun _ _ => rfl)))))
    (pss_one (ps_set (i := 4) sc__law_key.nd rfl (.inl rfl) (pe_op op_add (pe_op op_mulX pe_int (pv 4)) (pe_op op_mod (pe_callTy intI (by rfl) T.n_int (by decide +kernel) (pa_cons (pv 7) pa_nil)) pe_int))))))))
    (pss_one (ps_ret (pv 4))))), inferInstance, fun ds c Q hl h => by
    obtain ⟨l, sh, cs, rfl, hW, hl, hc, q⟩ := h
    have hn4 := hW.n4
    have ez : (List.replicate sh.length [D.int 0]).flatten = (cnts (l.take 0) sh.length).map .int := by
      rw [List.take_zero, cnts_nil, List.map_replicate]
      exact flat_one _ _
    walk_at "pl"
    refine ⟨by omega, by omega, by omega, ?_⟩
    rw [ez]
    have hW240 := hW.le
    refine ploop_m (f := fun c : Nat => D.str ⟨#[c]⟩) (fun i ρ' c' => ∃ y5 y6 y7 : Option Sl, ρ' = [some (.val (.str (sg l))), some (.val (dSh sh)), some (.val (dSh cs)), some (.own ((cnts (l.take i) sh.length).map .int)), some (.val (.int (keyN l cs i))), y5, y6, y7] ∧ c' = c) ⟨none, none, none, rfl, rfl⟩ ?_ ?_
    · rintro i x ρ' c' hx ⟨y5, y6, y7, rfl, rfl⟩
      have hil := (List.getElem?_eq_some_iff.mp hx).1
      obtain ⟨c1, c2⟩ := hW.rng x (List.mem_of_getElem? hx)
      have hg : l.getD i 0 = x := by rw [List.getD_eq_getElem?_getD, hx]; rfl
      have hc2 : l[i] = x := Option.some.inj ((List.getElem?_eq_getElem hil).symm.trans hx)
      have hxn : x - 97 < sh.length := by omega
      have hxl : x - 97 < (cnts (l.take i) sh.length).length := by rw [cnts_len]; exact hxn
      have hlt : (l.take i).count x < l.count x := by
        have := cnt_lt hil
        rw [hc2] at this
        exact this
      have hsx : sh.getD (x - 97) 0 = (l.count x : Nat) := by rw [cnts_get hl hxn, show 97 + (x - 97) = x by omega]
      have hv : (cnts (l.take i) sh.length).getD (x - 97) 0 = ((l.take i).count x : Nat) := by
        rw [List.getD_eq_getElem?_getD, cnts_at hxn, show 97 + (x - 97) = x by omega]
        rfl
      obtain ⟨k0, k1⟩ := keyN_bound l cs i
      walk_at "pl"
      refine ⟨x - 97, _, abcd_index c1 (by omega), _, at_int hxl, ?_⟩
      rw [hv]
      walk_at "pl"
      refine ⟨x - 97, ixN_nat hxl, _, at_int (by rw [hc.len]; exact hxn), _, at_int hxn, ?_⟩
      rw [hsx]
      have hset : ((cnts (l.take i) sh.length).map D.int).set (x - 97) (D.int (((l.take i).count x : Nat) + 1)) = (cnts (l.take (i + 1)) sh.length).map D.int := by
        rw [take_snocG hx, cnts_snoc c1 c2, List.map_set]
      walk_at "pl"
      refine ⟨_, at_nat rfl (List.getElem?_set_self (by rw [List.length_map]; exact hxl)), _, rfl, l.count x - (l.take i).count x - 1, by omega, mulx_of (a := 2) (b := 240) (by decide) (by decide) k0 (lt_pow k1 (by omega)) (by decide), hset, ?_⟩
      rw [keyN, hg]
      omega
    · rintro ρ' c' ⟨y5, y6, y7, rfl, rfl⟩
      walk_at "pl"
      exact q⟩
def sq__law_cells : PSp := fun ds c Q => ∃ (sh : List Int) (bx : List (Int × Int)), ds = [dBox bx] ∧ ShOk sh ∧ sh.sum ≤ 9 ∧ BoxSh sh bx ∧ Q (.lst ((cellsBx bx).map dSh)) c
theorem Q__law_cells (T : Txt K mg) : Ok P w K mg base CX0 1 "_law_cells" ["_law_box_here"] (spP K 1 sq__law_cells) :=
  okP T.f__law_cells T.g__law_cells sc__law_cells (fun _ _ _ _ _ _ us hl => match us, hl with | [_], _ => rfl) fun f cdv A outer s H E hr => ⟨_, _, (pss_cons (ps_set (i := 1) sc__law_cells.nd rfl (.inl rfl) (pe_lst (pa_cons (pe_tup pa_nil) pa_nil)))
    (pss_cons (ps_for PassesOwn.never rfl (piT K (pv 0)) (pgTup K (n := 2) (pgs_cons (pg_name (i := 2) sc__law_cells.nd rfl (.inl rfl)) (pgs_cons (pg_name (i := 3) sc__law_cells.nd rfl (.inl rfl)) pgs_nil))) (pss_cons (ps_set (i := 4) sc__law_cells.nd rfl (.inl rfl) (pe_lst pa_nil))
    (pss_cons (ps_for PassesOwn.never rfl (piL K (pv 1)) (pg_name (i := 5) sc__law_cells.nd rfl (.inr rfl)) (pss_one (ps_set (i := 4) sc__law_cells.nd rfl (.inl rfl) (pe_op op_cat (pv 4) (pe_lc (own := [("_law_number", 6)]) (g := (gName 6)) rfl sc__law_cells.nd (pi_range2 (by rfl) T.n_range (pa_cons (pv 2) (pa_cons (pe_op op_add (pv 3) pe_int) pa_nil))) (blkOk_by (N := N__law_cells) (sc := defScope s__law_cells) (by decide +kernel)) (fun _ _ _ _ _ => (pg_name (i := 6) sc__law_cells.nd rfl (.inl rfl))) (fun _ _ _ _ _ => pts_nil) (fun _ _ _ _ _ => (pe_op (catA K) (pv 5) (pe_tup (pa_cons (pv 6) pa_nil)))))))))
    (pss_one (ps_set (i := 1) sc__law_cells.nd rfl (.inl rfl) (pv 4))))))
    (pss_one (ps_ret (pv 1))))), inferInstance, fun ds c Q hl h => by
    obtain ⟨sh, bx, rfl, hsh, h9, hb, q⟩ := h
    have h0 : ∀ b ∈ sh, 0 ≤ b := fun b hb => by have := (hsh.bt b hb).1; omega
    have small : ∀ i, i ≤ bx.length → (cellsBx (bx.take i)).length ≤ 512 := fun i hi => by
      rw [hb.len] at hi
      refine Nat.le_trans (cellsBx_le hb i hi) ?_
      obtain ⟨h1, h2⟩ := cellsOf_len i sh hi h0
      have := sum_take_le sh h0 i
      rw [h1]
      have h3 : (sh.take i).sum.toNat ≤ 9 := by omega
      exact Nat.le_trans (Nat.pow_le_pow_right (by decide) h3) (by decide)
    walk_at "pl"
    refine ploop_m (fun i ρ' c' => ∃ y2 y3 y4 y5 y6 : Option Sl, ρ' = [some (.val (dBox bx)), some (.val (.lst ((cellsBx (bx.take i)).map dSh))), y2, y3, y4, y5, y6] ∧ c' = c) ⟨none, none, none, none, none, rfl, rfl⟩ ?_ ?_
    · rintro i p ρ' c' hp ⟨y2, y3, y4, y5, y6, rfl, rfl⟩
      have hi := (List.getElem?_eq_some_iff.mp hp).1
      have hpe : bx.getD i (0, 0) = p := by rw [List.getD_eq_getElem?_getD, hp]; rfl
      have hish : i < sh.length := by rw [← hb.len]; exact hi
      have p0 := hb.lo i hish
      have p1 := hb.le i hish
      have p2 := hb.hi i hish
      rw [hpe] at p0 p1 p2
      have hb9 : sh.getD i 0 ≤ 9 := by
        have := mem_le_sum sh h0 _ (gMem hish)
        omega
      have hp9 : (2 : Int) ^ (sh.getD i 0).toNat ≤ 512 := pow_le (b := 9) (by omega)
      have hs1 := small i (by omega)
      have hs2 := small (i + 1) hi
      rw [take_snocG hp, cellsBx_snoc] at hs2
      have hgl2 := growB_len p (cellsBx (bx.take i))
      walk_at "pl"
      refine ploop_m (fun j ρ' c'' => ∃ y5 y6 : Option Sl, ρ' = [some (.val (dBox bx)), some (.val (.lst ((cellsBx (bx.take i)).map dSh))), some (.val (.int p.1)), some (.val (.int p.2)), some (.val (.lst ((growB p ((cellsBx (bx.take i)).take j)).map dSh))), y5, y6] ∧ c'' = c') ⟨y5, y6, by rw [List.take_zero]; rfl, rfl⟩ ?_ ?_
      · rintro j cs ρ' c'' hcs ⟨z5, z6, rfl, rfl⟩
        have hj := (List.getElem?_eq_some_iff.mp hcs).1
        have hgl := growB_len p ((cellsBx (bx.take i)).take j)
        have hmul : ((cellsBx (bx.take i)).take j).length * (p.2 + 1 - p.1).toNat ≤ (cellsBx (bx.take i)).length * (p.2 + 1 - p.1).toNat := Nat.mul_le_mul_right _ (by rw [List.length_take]; omega)
        have hcl : cs.length = i := ((mem_cellsBx i (by omega) cs).mp (List.mem_of_getElem? hcs)).1
        have hn4 := hsh.n4
        walk_at "pl"
        refine ⟨by omega, by omega, by omega, by omega, pcomp_r (g := fun v : Nat => dSh (cs ++ [p.1 + (v : Int)])) (by omega) (fun v R hv hR => ?_) ?_⟩
        · walk_at "pl"
          refine ⟨by omega, ?_⟩
          have := hR
          unfold dSh at this
          rw [List.map_append] at this
          exact this
        · rw [List.length_map, List.length_range, hgl]
          refine ⟨by omega, ?_, rfl⟩
          rw [take_snocG hcs, growB_snoc, List.map_append, List.map_map]
          rfl
      · rintro ρ' c'' ⟨z5, z6, rfl, rfl⟩
        walk_at "pl"
        rw [List.take_length, take_snocG hp, cellsBx_snoc]
    · rintro ρ' c' ⟨y2, y3, y4, y5, y6, rfl, rfl⟩
      walk_at "pl"
      rw [List.take_length]
      exact q⟩
theorem cut_from (xs : List D) (k : Nat) : cutP xs (some (k : Int)) none = xs.drop k := by
  unfold cutP
  rw [HT.sIx_nat, HT.sIx_none]
  by_cases h : k ≤ xs.length
  · rw [Nat.min_eq_left h, List.take_of_length_le (by rw [List.length_drop]; exact Nat.le_refl _)]
  · rw [Nat.min_eq_right (by omega), List.drop_of_length_le (Nat.le_refl _), List.drop_of_length_le (by omega), List.take_nil]
theorem zip_next (ns : List Int) : zipD (ns.map D.int) (cutP (ns.map D.int) (some 1) none) = (List.range (ns.length - 1)).map fun t => .tup [.int (ns.getD t 0), .int (ns.getD (t + 1) 0)] := by
  have e : cutP (ns.map D.int) (some 1) none = (ns.map D.int).drop 1 := cut_from _ 1
  rw [e]
  apply List.ext_getElem?
  intro i
  by_cases h : i < ns.length - 1
  · rw [zipD_at (a := .int (ns.getD i 0)) (b := .int (ns.getD (i + 1) 0)) (by rw [List.getElem?_map, get_some (d := 0) (by omega)]; rfl) (by rw [List.getElem?_drop, Nat.add_comm 1 i, List.getElem?_map, get_some (d := 0) (by omega)]; rfl), List.getElem?_map, List.getElem?_range h]
    rfl
  · rw [List.getElem?_eq_none (by rw [zipD_len, List.length_map, List.length_drop, List.length_map]; omega), List.getElem?_eq_none (by rw [List.length_map, List.length_range]; omega)]
theorem stp_low {d e : Nat} {K : Int} (h : (K + 1) % 2 ^ d = 0) (he : e < d) : stp e K = false := by
  unfold stp
  rw [decide_eq_false_iff_not]
  intro z
  have p := pow_pos' e
  have h1 := Int.emod_add_mul_ediv (K + 1) (2 ^ d)
  have e1 : (2 : Int) ^ d = 2 ^ (e + 1) * 2 ^ (d - e - 1) := by rw [← Int.pow_add]; congr 1; omega
  rw [h, Int.zero_add, e1, Int.mul_assoc] at h1
  rw [← h1, Int.mul_emod_right] at z
  omega
theorem stp_high {d e : Nat} {K : Int} (h : stp e K = true) (he : e < d) : stp d K = false := by
  unfold stp at *
  rw [decide_eq_true_iff] at h
  rw [decide_eq_false_iff_not]
  intro z
  have p := pow_pos' e
  have h1 := Int.emod_add_mul_ediv (K + 1) (2 ^ (d + 1))
  have e1 : (2 : Int) ^ d = 2 ^ (e + 1) * 2 ^ (d - e - 1) := by rw [← Int.pow_add]; congr 1; omega
  rw [z, Int.pow_succ, e1, Int.mul_assoc, Int.mul_assoc, ← Int.mul_add] at h1
  rw [← h1, Int.mul_emod_right] at h
  omega
theorem set_range {n k : Nat} {f g : Nat → D} {v : D} (h1 : g k = v) (h2 : ∀ j, j < n → j ≠ k → g j = f j) : ((List.range n).map f).set k v = (List.range n).map g := by
  apply List.ext_getElem?
  intro i
  by_cases hi : i < n
  · by_cases e : k = i
    · subst e
      rw [List.getElem?_set_self (by rw [List.length_map, List.length_range]; exact hi), List.getElem?_map, List.getElem?_range hi, ← h1]
      rfl
    · rw [List.getElem?_set_ne e, List.getElem?_map, List.getElem?_map, List.getElem?_range hi]
      exact congrArg some (h2 i hi (Ne.symm e)).symm
  · rw [List.getElem?_eq_none (by rw [List.length_set, List.length_map, List.length_range]; omega), List.getElem?_eq_none (by rw [List.length_map, List.length_range]; omega)]
def sq__law_pairs : PSp := fun ds c Q => ∃ (l : List Nat) (sh : List Int) (bx : List (Int × Int)), ds = [.str (sg l), dSh sh, dBox bx] ∧ ShOk sh ∧ sh.sum ≤ 9 ∧ WK.WOk l sh.length ∧ cnts l sh.length = sh ∧ BoxSh sh bx ∧ Q (.lst ((List.range l.length).map fun j => .int (prL sh bx l j))) c
theorem Q__law_pairs (T : Txt K mg) : Ok P w K mg base CX0 2 "_law_pairs" ["_law_letters", "_law_sizes_here", "_law_box_here"] (spP K 3 sq__law_pairs) :=
  okP T.f__law_pairs T.g__law_pairs sc__law_pairs (fun _ _ _ _ _ _ us hl => match us, hl with | [_, _, _], _ => rfl) fun f cdv A outer s H E hr => ⟨_, _, (pss_cons (ps_set (i := 3) sc__law_pairs.nd rfl (.inl rfl) (pe_own (pe_op op_rep (pe_lst (pa_cons pe_int pa_nil)) (pe_callB (lenU K) (by rfl) T.n_len (by decide +kernel) (pa_cons (pv 0) pa_nil)))))
    (pss_cons (ps_set (i := 4) sc__law_pairs.nd rfl (.inl rfl) (pe_callB (sortI K) (by rfl) T.n_sorted (by decide +kernel) (pa_cons (pe_lc (own := [("_law_numbers", 9)]) (g := (gName 9)) rfl sc__law_pairs.nd (piL K (cal (Q__law_cells (K := K) T) hr (pa_cons (pv 2) pa_nil))) (blkOk_by (N := N__law_pairs) (sc := defScope s__law_pairs) (by decide +kernel)) (fun _ _ _ _ _ => (pg_name (i := 9) sc__law_pairs.nd rfl (.inl rfl))) (fun _ _ _ _ _ => pts_nil) (fun _ _ _ _ _ => (cal (Q__law_key (K := K) T) hr (pa_cons (pv 0) (pa_cons (pv 1) (pa_cons (pv 9) pa_nil)))))) pa_nil)))
    (pss_cons (ps_for PassesOwn.never rfl (piZipL K T.n_zip (pa_cons (pv 4) (pa_cons (pe_slice (slL K) (pv 4) (po_some pe_int) po_none) pa_nil))) (pgTup K (n := 2) (pgs_cons (pg_name (i := 5) sc__law_pairs.nd rfl (.inl rfl)) (pgs_cons (pg_name (i := 6) sc__law_pairs.nd rfl (.inl rfl)) pgs_nil))) (pss_one (ps_if (pt_cmpR op_eq (pv 6) (pe_op op_add (pv 5) pe_int) (nomark _)) (pss_cons (ps_par (i := 7) (j := 8) rfl sc__law_pairs.nd rfl rfl (by decide) rfl rfl (pa_cons (pe_op op_sub (pe_callB (lenU K) (by rfl) T.n_len (by decide +kernel) (pa_cons (pv 0) pa_nil)) pe_int) (pa_cons (pv 5) pa_nil)) (by rfl))
    (pss_cons (ps_while PassesOwn.never (pt_cmpR op_eq (pe_op op_mod (pe_callTy intI (by rfl) T.n_int (by decide +kernel) (pa_cons (pv 8) pa_nil)) pe_int) pe_int (nomark _)) (pss_one (ps_par (i := 7) (j := 8) rfl sc__law_pairs.nd rfl rfl (by decide) rfl rfl (pa_cons (pe_op op_sub (pv 7) pe_int) (pa_cons (pe_op op_fdivW (pv 8) pe_int) pa_nil)) (by rfl))))
    (pss_one (ps_asg (pe_op op_add (pe_ix (ixL K) (pv 3) (pv 7) (fun _ _ => rfl)) pe_int) (pg_sub (pv 3) (pv 7) set_list))))) pss_nil)))
    (pss_one (ps_frz 3 (ps_ret (pv 3))))))), inferInstance, fun ds c Q hl h => by
    obtain ⟨l, sh, bx, rfl, hsh, h9, hW, hl, hb, q⟩ := h
    have h0 : ∀ b ∈ sh, 0 ≤ b := fun b hb => by have := (hsh.bt b hb).1; omega
    have hlen : (l.length : Int) = sh.sum := by
      have := hW.sum
      rw [hl] at this
      exact this.symm
    have small : (cellsBx bx).length ≤ 512 := by
      have h1 := cellsBx_le hb sh.length (Nat.le_refl _)
      obtain ⟨h2, h3⟩ := cellsOf_len sh.length sh (Nat.le_refl _) h0
      rw [List.take_length] at h1 h2 h3
      rw [← hb.len, List.take_length] at h1
      rw [h2] at h1
      exact Nat.le_trans h1 (Nat.le_trans (Nat.pow_le_pow_right (by decide) (by omega)) (by decide : 2 ^ 9 ≤ 512))
    walk_at "pl"
    refine ⟨by omega, by omega, by omega, by omega, sh, bx, rfl, hsh, h9, hb, _, rfl, pcomp_f (f := dSh) (g := fun cs => .int (keyN l cs l.length)) (by omega) (fun i cs R he hR => ?_) ?_⟩
    · have hm := (mem_cellsBx (bx := bx) bx.length (Nat.le_refl _) cs).mp (by rw [List.take_length]; exact List.mem_of_getElem? he)
      walk_at "pl"
      refine ⟨l, sh, cs, rfl, hW, hl, ⟨by rw [← hb.len]; exact hm.1, fun k hk => ?_, fun k hk => ?_⟩, hR⟩
      · have := hb.lo k hk
        have := (hm.2 k (by rw [hb.len]; exact hk)).1
        omega
      · have := hb.hi k hk
        rw [cnts_get hl hk, Int.toNat_natCast] at this
        have := (hm.2 k (by rw [hb.len]; exact hk)).2
        omega
    refine ⟨(cellsBx bx).map fun cs => keyN l cs l.length, by rw [List.map_map]; rfl, fun ns' h1 h2 => ?_⟩
    have hks := keys_listB hW hl hb h1 h2
    generalize hp : inB l bx = p at hks
    subst hks
    have ez : (List.replicate l.length [D.int 0]).flatten = (List.range l.length).map fun j => D.int (sumI (pairJ (l.length - 1 - j) (listB p (2 ^ l.length))) 0) := by
      rw [flat_one]
      show _ = (List.range l.length).map fun _ => D.int 0
      simp [List.map_const']
    rw [zip_next, ez]
    generalize hks : listB p (2 ^ l.length) = ks
    have hin : ∀ x ∈ ks, 0 ≤ x ∧ x < 2 ^ l.length := fun x hx => by
      rw [← hks] at hx
      obtain ⟨a, b, _⟩ := listB_mem.mp hx
      rw [← pow_nat] at b
      exact ⟨a, b⟩
    refine ploop_m (f := fun t : Nat => D.tup [.int (ks.getD t 0), .int (ks.getD (t + 1) 0)]) (fun i ρ' c' => ∃ y5 y6 y7 y8 y9 : Option Sl, ρ' = [some (.val (.str (sg l))), some (.val (dSh sh)), some (.val (dBox bx)), some (.own ((List.range l.length).map fun j => D.int (sumI (pairJ (l.length - 1 - j) ks) i))), some (.val (.lst (ks.map .int))), y5, y6, y7, y8, y9] ∧ c' = c) ⟨none, none, none, none, none, rfl, rfl⟩ ?_ ?_
    · rintro i t ρ' c' ht ⟨y5, y6, y7, y8, y9, rfl, rfl⟩
      have hi := (List.getElem?_eq_some_iff.mp ht).1
      rw [List.length_range] at hi
      rw [List.getElem?_range hi] at ht
      cases ht
      have hx := hin _ (gMem (xs := ks) (k := i) (by omega))
      have hy := hin _ (gMem (xs := ks) (k := i + 1) (by omega))
      have hstep : ∀ d, sumI (pairJ d ks) (i + 1) = sumI (pairJ d ks) i + pairJ d ks i := fun d => rfl
      walk_at "pl"
      refine if_d (fun e => ?_) fun e => ?_
      · generalize hxe : ks.getD i 0 = x at *
        have hl0 : 0 < l.length := by
          rcases Nat.eq_zero_or_pos l.length with z | z
          · rw [z] at hx hy
            have : (2 : Int) ^ 0 = 1 := rfl
            omega
          · exact z
        refine ⟨by omega, fun m ρ c2 => ∃ d : Nat, ρ = [some (.val (.str (sg l))), some (.val (dSh sh)), some (.val (dBox bx)), some (.own ((List.range l.length).map fun j => D.int (sumI (pairJ (l.length - 1 - j) ks) i))), some (.val (.lst (ks.map .int))), some (.val (.int x)), some (.val (.int (ks.getD (i + 1) 0))), some (.val (.int ((l.length : Int) - 1 - (d : Int)))), some (.val (.int (x / 2 ^ d))), y9] ∧ c2 = c' ∧ d + 1 ≤ l.length ∧ (x + 1) % 2 ^ d = 0 ∧ m = (x / 2 ^ d).toNat,
          ⟨_, 0, by rw [Int.pow_zero, Int.ediv_one, Int.natCast_zero, Int.sub_zero]; rfl, rfl, hl0, by rw [Int.pow_zero, Int.emod_one], rfl⟩, ?_⟩
        rintro m ρ c2 ⟨d, rfl, rfl, hd, hdm, rfl⟩
        have pd := pow_pos' d
        have hd1 := Int.emod_add_mul_ediv (x + 1) (2 ^ d)
        rw [hdm, Int.zero_add] at hd1
        have hdiv : x / 2 ^ d = (x + 1) / 2 ^ d - 1 := by
          rw [show x = (2 ^ d - 1) + 2 ^ d * ((x + 1) / 2 ^ d - 1) by rw [Int.mul_sub, hd1, Int.mul_one]; omega]
          rw [Int.add_mul_ediv_left _ _ (by omega), Int.ediv_eq_zero_of_lt (by omega) (by omega), Int.zero_add, show (2 : Int) ^ d - 1 + 2 ^ d * ((x + 1) / 2 ^ d - 1) + 1 = 2 ^ d * ((x + 1) / 2 ^ d) by rw [Int.mul_sub, Int.mul_one]; omega, Int.mul_ediv_cancel_left _ (by omega)]
        have hq0 : 0 ≤ x / 2 ^ d := Int.ediv_nonneg hx.1 (by omega)
        walk_at "pl"
        refine if_d (fun e2 => ?_) fun e2 => ?_
        · obtain ⟨r, hr⟩ : ∃ r, (x + 1) / 2 ^ d = 2 * r := ⟨(x + 1) / 2 ^ d / 2, by omega⟩
          have ex : x + 1 = 2 ^ (d + 1) * r := by rw [← hd1, hr, Int.pow_succ, Int.mul_assoc]
          have r0 : 1 ≤ r := by omega
          have hbig : (2 : Int) ^ (d + 1) ≤ x + 1 := by
            rw [ex]
            have := Int.mul_le_mul_of_nonneg_left r0 (Int.le_of_lt (pow_pos' (d + 1)))
            rwa [Int.mul_one] at this
          have hlt : d + 1 < l.length := Nat.lt_of_not_le fun z => by
            have := pow_le z
            omega
          exact ⟨cdiv_of (k := 2) (by decide) (by decide) (by decide), (x / 2 ^ (d + 1)).toNat, by rw [ediv_pow_succ']; omega, d + 1, by omega, (ediv_pow_succ' x d).symm, by omega, by rw [ex, Int.mul_emod_right], rfl⟩
        · obtain ⟨r, hr⟩ : ∃ r, (x + 1) / 2 ^ d = 2 * r + 1 := ⟨(x + 1) / 2 ^ d / 2, by omega⟩
          have ex : x + 1 = 2 ^ d + 2 ^ (d + 1) * r := by rw [← hd1, hr, Int.pow_succ, Int.mul_assoc, Int.mul_add, Int.mul_one]; omega
          have hs : stp d x = true := by
            unfold stp
            rw [decide_eq_true_iff, ex, Int.add_mul_emod_self_left, Int.emod_eq_of_lt (by omega) (by rw [Int.pow_succ]; omega)]
          have hjl : l.length - 1 - d < l.length := by omega
          refine ⟨_, at_map (fun j => D.int (sumI (pairJ (l.length - 1 - j) ks) i)) (k := l.length - 1 - d) (by omega) (List.getElem?_range hjl), _, rfl, l.length - 1 - d, by rw [show (l.length : Int) - 1 - (d : Int) = ((l.length - 1 - d : Nat) : Int) by omega]; exact ixN_nat hjl, ?_⟩
          refine set_range ?_ fun j hj hne => ?_
          · rw [show l.length - 1 - (l.length - 1 - d) = d by omega, hstep]
            unfold pairJ
            rw [hxe, if_pos ⟨e, hs⟩]
          · rw [hstep]
            unfold pairJ
            rw [hxe, if_neg fun z => ?_, Int.add_zero]
            have h2 := z.2
            rcases Nat.lt_or_ge (l.length - 1 - j) d with g | g
            · rw [stp_low hdm g] at h2
              cases h2
            · rw [stp_high hs (by omega)] at h2
              cases h2
      · refine List.map_congr_left fun j _ => ?_
        rw [hstep]
        unfold pairJ
        rw [if_neg fun z => e (by rw [z.1]), Int.add_zero]
    · rintro ρ' c' ⟨y5, y6, y7, y8, y9, rfl, rfl⟩
      walk_at "pl"
      rw [← hp] at hks
      have ej : ((List.range l.length).map fun j => D.int (sumI (pairJ (l.length - 1 - j) ks) (ks.length - 1))) = (List.range l.length).map fun j => D.int (prL sh bx l j) := List.map_congr_left fun j hj => by
        have := pairs_due hW hl hb (List.mem_range.mp hj)
        rw [hks] at this
        rw [this]
        rfl
      rw [ej]
      exact q⟩

end
section
open WQ WM
variable {P : Program} {w : World} {K : PySem.W.Frag} {mg : Str → Option Value} {base : Heap}
/-! ### finer sizes, letters, boxes from a bowl -/
theorem sum_most (b : Int) : ∀ xs : List Int, (∀ x ∈ xs, x ≤ b) → xs.sum ≤ xs.length * b
  | [], _ => by rw [List.sum_nil]; exact Int.le_of_eq (Int.zero_mul b).symm
  | x :: xs, h => by
    have h1 := h x List.mem_cons_self
    have h2 := sum_most b xs fun y hy => h y (List.mem_cons_of_mem _ hy)
    rw [List.sum_cons, List.length_cons, Int.natCast_add, Int.add_mul, Int.natCast_one, Int.one_mul]
    omega
theorem row_int {xs : List Int} : xs.map D.int = (List.range xs.length).map fun k => D.int (xs.getD k 0) := by
  conv => lhs; rw [← getD_self xs]
  rw [List.map_map]
  rfl
theorem zip_rows (n : Nat) (f g : Nat → D) : zipD ((List.range n).map f) ((List.range n).map g) = (List.range n).map fun k => .tup [f k, g k] := by
  apply List.ext_getElem?
  intro i
  by_cases h : i < n
  · rw [zipD_at (a := f i) (b := g i) (by rw [List.getElem?_map, List.getElem?_range h]; rfl) (by rw [List.getElem?_map, List.getElem?_range h]; rfl), List.getElem?_map, List.getElem?_range h]
    rfl
  · rw [List.getElem?_eq_none (by rw [zipD_len, List.length_map, List.length_map, List.length_range]; omega), List.getElem?_eq_none (by rw [List.length_map, List.length_range]; omega)]
theorem row_pr {bx : List (Int × Int)} : bx.map dPr = (List.range bx.length).map fun k => dPr (bx.getD k (0, 0)) := by
  apply List.ext_getElem?
  intro i
  by_cases h : i < bx.length
  · rw [List.getElem?_map, List.getElem?_map, List.getElem?_range h, get_some (d := (0, 0)) h]
    rfl
  · rw [List.getElem?_eq_none (by rw [List.length_map]; omega), List.getElem?_eq_none (by rw [List.length_map, List.length_range]; omega)]
def wideS (sh more : List Int) : List Int := (List.range sh.length).map fun k => sh.getD k 0 + more.getD k 0
def sq__law_wide : PSp := fun ds c Q => ∃ (l : List Nat) (sh : List Int), ds = [.brk, dSh sh, .str (sg l)] ∧ c.n ≤ 2 ^ 57 ∧ ShOk sh ∧ sh.sum ≤ 9 ∧ l.length ≤ 240 ∧ ∀ (more : List Int) (t : List Nat) (c' : Om), c.n ≤ c'.n → c'.n ≤ c.n + 6000 → more.length = sh.length → (∀ k, k < sh.length → 0 ≤ more.getD k 0 ∧ sh.getD k 0 + more.getD k 0 ≤ 120) → sh.sum + more.sum ≤ 240 → (∀ x ∈ t, 97 ≤ x ∧ x < 97 + sh.length) → cnts t sh.length = more → Q (.tup [dSh (wideS sh more), .lst (more.map .int), .str (sg (l ++ t))]) c'
theorem Q__law_wide (T : Txt K mg) : Ok P w K mg base CX0 4 "_law_wide" ["_law_bowl_here", "_law_sizes_here", "_law_letters"] (spP K 3 sq__law_wide) :=
  okP T.f__law_wide T.g__law_wide sc__law_wide (fun _ _ _ _ _ _ us hl => match us, hl with | [_, _, _], _ => rfl) fun f cdv A outer s H E hr => ⟨_, _, (pss_cons (ps_setLc (i := 3) (own := [("_law_bits", 5)]) (g := (gName 5)) rfl sc__law_wide.nd rfl rfl (sw_true rfl rfl rfl (by decide +kernel)) (piT K (pv 1)) (blkOk_by (N := N__law_wide) (sc := defScope s__law_wide) (by decide +kernel)) (fun _ _ _ _ _ => (pg_name (i := 5) sc__law_wide.nd rfl (.inl rfl))) (fun _ _ _ _ _ => pts_nil) (fun _ _ _ _ _ => (cal (Q__law_pick (K := K) T) hr (pa_cons (pv 0) (pa_cons (pe_op op_add (pe_ix (ixL K) (pe_lst (pa_cons pe_int (pa_cons pe_int (pa_cons (pe_op op_sub (pe_op op_fdivW pe_int (pe_callB (lenU K) (by rfl) T.n_len (by decide +kernel) (pa_cons (pv 1) pa_nil))) (pv 5)) pa_nil)))) (cal (Q__law_pick (K := K) T) hr (pa_cons (pv 0) (pa_cons pe_int pa_nil))) (fun _ _ => rfl)) pe_int) pa_nil)))))
    (pss_cons (ps_setLc (i := 3) (own := [("_law_one", 6), ("_law_bits", 5)]) (g := (gTup K 2 (gCons (gName 6) (gCons (gName 5) gNil)))) rfl sc__law_wide.nd rfl rfl (sw_true rfl rfl rfl (by decide +kernel)) (piZipM K true false T.n_zip (pa_cons (pv 3) (pa_cons (pv 1) pa_nil))) (blkOk_by (N := N__law_wide) (sc := defScope s__law_wide) (by decide +kernel)) (fun _ _ _ _ _ => (pgTup K (n := 2) (pgs_cons (pg_name (i := 6) sc__law_wide.nd rfl (.inl rfl)) (pgs_cons (pg_name (i := 5) sc__law_wide.nd rfl (.inl rfl)) pgs_nil)))) (fun _ _ _ _ _ => pts_nil) (fun _ _ _ _ _ => (pe_callB min2 (by rfl) T.n_min (by decide +kernel) (pa_cons (pv 6) (pa_cons (pe_op op_sub pe_int (pv 5)) pa_nil)))))
    (pss_cons (ps_set (i := 4) sc__law_wide.nd rfl (.inl rfl) (pe_callTy (tupleOf K) (by rfl) T.n_tuple (by decide +kernel) (pa_cons (pe_lc (own := [("_law_bits", 5), ("_law_one", 6)]) (g := (gTup K 2 (gCons (gName 5) (gCons (gName 6) gNil)))) rfl sc__law_wide.nd (piZipM K false true T.n_zip (pa_cons (pv 1) (pa_cons (pv 3) pa_nil))) (blkOk_by (N := N__law_wide) (sc := defScope s__law_wide) (by decide +kernel)) (fun _ _ _ _ _ => (pgTup K (n := 2) (pgs_cons (pg_name (i := 5) sc__law_wide.nd rfl (.inl rfl)) (pgs_cons (pg_name (i := 6) sc__law_wide.nd rfl (.inl rfl)) pgs_nil)))) (fun _ _ _ _ _ => pts_nil) (fun _ _ _ _ _ => (pe_op op_add (pv 5) (pv 6)))) pa_nil)))
    (pss_one (ps_ret (pe_tup (pa_cons (pv 4) (pa_cons (pv 3) (pa_cons (pe_op op_add_str (pv 2) (cal (Q__law_word (K := K) T) hr (pa_cons (pv 0) (pa_cons (pv 3) pa_nil)))) pa_nil))))))))), inferInstance, fun ds c Q hl h => by
    obtain ⟨l, sh, rfl, hc, hs, h9, h240, q⟩ := h
    have p57 : (2 : Nat) ^ 57 = 144115188075855872 := by decide
    have p58 : (2 : Nat) ^ 58 = 288230376151711744 := by decide
    have p59 : (2 : Nat) ^ 59 = 576460752303423488 := by decide
    have n1 := hs.n1
    have n4 := hs.n4
    have hs0 : ∀ x ∈ sh, 0 ≤ x := fun x hx => by have := (hs.bt x hx).1; omega
    have q60 : 60 ≤ 240 / (sh.length : Int) := Int.le_ediv_of_mul_le (by omega) (by omega)
    walk_at "pl"
    refine pcomp_i (by omega) (fun i acc c' => ∃ ms : List Int, acc = ms.map .int ∧ ms.length = i ∧ (∀ k, k < i → 0 ≤ ms.getD k 0 ∧ ms.getD k 0 + sh.getD k 0 ≤ 240 / (sh.length : Int)) ∧ c'.n = c.n + 40 * i) ⟨[], rfl, rfl, (fun k hk => absurd hk (Nat.not_lt_zero _)), rfl⟩ (fun i e acc c' R he hI hR => ?_) ?_
    · obtain ⟨ms, rfl, hm, hk, hn⟩ := hI
      have hi := (List.getElem?_eq_some_iff.mp he).1
      obtain ⟨e0, e1⟩ := hs.bt e (List.mem_of_getElem? he)
      have e9 := mem_le_sum sh hs0 e (List.mem_of_getElem? he)
      have hg : sh.getD i 0 = e := by rw [List.getD_eq_getElem?_getD, he]; rfl
      have hq : 240 / (sh.length : Int) ≤ 240 := Int.ediv_le_self _ (by decide)
      walk_at "pl"
      refine ⟨cdiv_of (k := 20) (by omega) (by omega) (by decide), 3, rfl, by omega, by decide, small1000' (by decide), fun r r0 r1 => ?_⟩
      have fin : ∀ v : Int, 0 ≤ v → v ≤ 240 / (sh.length : Int) - e → sq__law_pick [D.brk, D.int (v + 1)] (c'.add 20) R := fun v v0 v1 =>
        ⟨v + 1, rfl, by rw [Om.add_n]; omega, by omega, small1000' (by omega), fun x x0 x1 => hR _ _ ⟨ms ++ [x], by rw [List.map_append]; rfl, by rw [List.length_append, hm]; rfl, fun k hk2 => by
          by_cases ek : k < i
          · rw [getD_snoc_lt (by omega)]
            exact hk k ek
          · have : k = ms.length := by omega
            subst this
            rw [getD_snoc_eq rfl, hm, hg]
            omega, by rw [Om.add_n, Om.add_n, hn]; omega⟩⟩
      walk_at "pl"
      rcases (show r = 0 ∨ r = 1 ∨ r = 2 by omega) with rfl | rfl | rfl
      · exact ⟨_, at_nat (j := 0) rfl rfl, _, rfl, fin 2 (by decide) (by omega)⟩
      · exact ⟨_, at_nat (j := 1) rfl rfl, _, rfl, fin 40 (by decide) (by omega)⟩
      · exact ⟨_, at_nat (j := 2) rfl rfl, _, rfl, fin (240 / (sh.length : Int) - e) (by omega) (by omega)⟩
    · rintro acc c' hl ⟨ms, rfl, hm, hk, hn⟩
      walk_at "pl"
      have e1 : zipD (ms.map D.int) (sh.map D.int) = (List.range sh.length).map fun k => .tup [.int (ms.getD k 0), .int (sh.getD k 0)] := by
        rw [row_int (xs := ms), row_int (xs := sh), hm, zip_rows]
      rw [e1]
      have hat : ∀ k, k < sh.length → (0 : Int) ≤ 120 - sh.getD k 0 := fun k hk2 => by have := (hs.at hk2).2; omega
      generalize hmo : (List.range sh.length).map (fun k => if 120 - sh.getD k 0 < ms.getD k 0 then 120 - sh.getD k 0 else ms.getD k 0) = more
      have ml : more.length = sh.length := by rw [← hmo, List.length_map, List.length_range]
      have mg : ∀ k, k < sh.length → more.getD k 0 = if 120 - sh.getD k 0 < ms.getD k 0 then 120 - sh.getD k 0 else ms.getD k 0 := fun k hk2 => by
        rw [← hmo, List.getD_eq_getElem?_getD, List.getElem?_map, List.getElem?_range hk2]
        rfl
      have mb : ∀ k, k < sh.length → 0 ≤ more.getD k 0 ∧ sh.getD k 0 + more.getD k 0 ≤ 120 ∧ sh.getD k 0 + more.getD k 0 ≤ 240 / (sh.length : Int) := fun k hk2 => by
        have h1 := hk k hk2
        have h2 := hat k hk2
        rw [mg k hk2]
        split <;> omega
      have hsum : sh.sum + more.sum ≤ 240 := by
        have e3 : (wideS sh more).sum ≤ (wideS sh more).length * (240 / (sh.length : Int)) := sum_most _ _ fun x hx => by
          obtain ⟨k, hk2, rfl⟩ := List.mem_map.mp hx
          exact (mb k (List.mem_range.mp hk2)).2.2
        have e4 : (wideS sh more).sum = sh.sum + more.sum := by
          have h1 := sum_sub_range (fun k => sh.getD k 0 + more.getD k 0) (fun k => sh.getD k 0) sh.length
          have h2 : ((List.range sh.length).map fun k => sh.getD k 0 + more.getD k 0 - sh.getD k 0) = more := by
            conv => rhs; rw [← getD_self more, ml]
            exact List.map_congr_left fun k _ => by show sh.getD k 0 + more.getD k 0 - sh.getD k 0 = more.getD k 0; omega
          rw [h2] at h1
          have h3 : ((List.range sh.length).map fun k => sh.getD k 0) = sh := getD_self sh
          rw [h3] at h1
          show ((List.range sh.length).map fun k => sh.getD k 0 + more.getD k 0).sum = _
          omega
        have e5 : (wideS sh more).length = sh.length := by unfold wideS; rw [List.length_map, List.length_range]
        rw [e5, Int.mul_comm] at e3
        have e6 : 240 / (sh.length : Int) * (sh.length : Int) ≤ 240 := Int.ediv_mul_le 240 (by omega)
        omega
      refine pcomp_f (g := fun k => .int (more.getD k 0)) (by rw [List.length_range]; omega) (fun i k R hik hR => ?_) ?_
      · have hi := (List.getElem?_eq_some_iff.mp hik).1
        rw [List.length_range] at hi
        rw [List.getElem?_range hi] at hik
        cases hik
        rw [mg i hi] at hR
        walk_at "pl"
        exact hR
      · have e2 : ((List.range sh.length).map fun k => D.int (more.getD k 0)) = more.map D.int := by rw [row_int (xs := more), ml]
        rw [e2, row_int (xs := sh), row_int (xs := more), ml, zip_rows]
        refine pcomp_f (g := fun k => .int (sh.getD k 0 + more.getD k 0)) (by rw [List.length_range]; omega) (fun i k R hik hR => ?_) ?_
        · walk_at "pl"
          exact hR
        · rw [← ml, ← row_int (xs := more)]
          refine ⟨more, .lst (more.map .int), rfl, .inr rfl, by omega, by omega, by omega, (fun x hx => ?_), by have := sumNN sh hs0; omega, fun t c2 m0 m1 t1 t2 t3 => ⟨_, rfl, by rw [sg_len]; have := sumNN sh hs0; omega, ?_⟩⟩
          · obtain ⟨k, hk2, rfl⟩ := memG hx
            exact (mb k (by omega)).1
          · rw [sg_app]
            have e8 : ((List.range more.length).map fun k => D.int (sh.getD k 0 + more.getD k 0)) = (wideS sh more).map D.int := by
              unfold wideS
              rw [List.map_map, ml]
              rfl
            rw [e8]
            rw [ml] at t1 t2
            exact q more t c2 (by omega) (by omega) ml (fun k hk2 => ⟨(mb k hk2).1, (mb k hk2).2.1⟩) hsum t1 t2⟩
def sq__law_wider : PSp := fun ds c Q => ∃ (bx : List (Int × Int)) (more : List Int), ds = [dBox bx, .lst (more.map .int)] ∧ more.length = bx.length ∧ bx.length ≤ 4 ∧ (∀ k, k < bx.length → 0 ≤ more.getD k 0 ∧ more.getD k 0 ≤ 240 ∧ 0 ≤ (bx.getD k (0, 0)).1 ∧ (bx.getD k (0, 0)).1 ≤ (bx.getD k (0, 0)).2 ∧ (bx.getD k (0, 0)).2 < 2 ^ 240) ∧ Q (dBox (wideB bx more)) c
theorem Q__law_wider (T : Txt K mg) : Ok P w K mg base CX0 1 "_law_wider" ["_law_box_here", "_law_more"] (spP K 2 sq__law_wider) :=
  okP T.f__law_wider T.g__law_wider sc__law_wider (fun _ _ _ _ _ _ us hl => match us, hl with | [_, _], _ => rfl) fun f cdv A outer s H E hr => ⟨_, _, (pss_one (ps_ret (pe_callTy (tupleOf K) (by rfl) T.n_tuple (by decide +kernel) (pa_cons (pe_lc (own := [("_law_one", 4), ("_law_low", 2), ("_law_high", 3)]) (g := (gTup K 2 (gCons (gTup K 2 (gCons (gName 2) (gCons (gName 3) gNil))) (gCons (gName 4) gNil)))) rfl sc__law_wider.nd (piZipM K false true T.n_zip (pa_cons (pv 0) (pa_cons (pv 1) pa_nil))) (blkOk_by (N := N__law_wider) (sc := defScope s__law_wider) (by decide +kernel)) (fun _ _ _ _ _ => (pgTup K (n := 2) (pgs_cons (pgTup K (n := 2) (pgs_cons (pg_name (i := 2) sc__law_wider.nd rfl (.inl rfl)) (pgs_cons (pg_name (i := 3) sc__law_wider.nd rfl (.inl rfl)) pgs_nil))) (pgs_cons (pg_name (i := 4) sc__law_wider.nd rfl (.inl rfl)) pgs_nil)))) (fun _ _ _ _ _ => pts_nil) (fun _ _ _ _ _ => (pe_tup (pa_cons (pe_op op_shlN (pv 2) (pv 4)) (pa_cons (pe_op op_sub (pe_op op_shlN (pe_op op_add (pv 3) pe_int) (pv 4)) pe_int) pa_nil))))) pa_nil)))), inferInstance, fun ds c Q hl h => by
    obtain ⟨bx, more, rfl, hm, h4, hk, q⟩ := h
    walk_at "pl"
    rw [row_int, row_pr, hm, zip_rows]
    refine pcomp_f (g := fun k => dPr ((wideB bx more).getD k (0, 0))) (by rw [List.length_range]; omega) (fun i k R hik hR => ?_) ?_
    · have hi := (List.getElem?_eq_some_iff.mp hik).1
      rw [List.length_range] at hi
      rw [List.getElem?_range hi] at hik
      cases hik
      obtain ⟨m0, m1, b0, b1, b2⟩ := hk i hi
      rw [wideB_get hi] at hR
      have cs : ∀ x : Int, 0 ≤ x → x < 2 ^ 241 → CShl x ((more.getD i 0).toNat : Int) := fun x h0 h1 => cshl_of h0 h1 (by omega)
      have e241 : (2 : Int) ^ 241 = 2 * 2 ^ 240 := by rw [Int.pow_succ, Int.mul_comm]
      walk_at "pl"
      exact ⟨(more.getD i 0).toNat, by omega, cs _ (by omega) (by omega), (more.getD i 0).toNat, by omega, cs _ (by omega) (by omega), hR⟩
    · have e : (List.range bx.length).map (fun k => dPr ((wideB bx more).getD k (0, 0))) = (wideB bx more).map dPr := by
        rw [row_pr (bx := wideB bx more), wideB_len]
      rw [e]
      exact q⟩

theorem repOk_of {d : D} {h n : Nat} (hd : dat d = true) (b : DOk h n (toPy d)) (c : h ≤ 60 := by decide) (e : n ≤ 100000 := by decide) : repOk d := ⟨hd, b.sh, b.nd, Nat.le_trans b.dp c, Nat.le_trans b.ln (le_size e)⟩

end
section
open WQ WM
variable {P : Program} {w : World} {K : PySem.W.Frag} {mg : Str → Option Value} {base : Heap}
/-! ### pairs of one step by floors; great boxes -/
def sq__law_step : PSp := fun ds c Q => ∃ (sh lv : List Int) (bx : List (Int × Int)) (a : Nat), ds = [dBox bx, dSh sh, .lst (lv.map .int), .int (a : Int)] ∧ ShOk sh ∧ BoxSh sh bx ∧ LvOk sh lv ∧ a < sh.length ∧ lv.getD a 0 < sh.getD a 0 ∧ Q (.int (prs sh ⟨1, .inl bx⟩ lv a)) c
theorem Q__law_step (T : Txt K mg) : Ok P w K mg base CX0 1 "_law_step" ["_law_box_here", "_law_sizes_here", "_law_told", "_law_axis"] (spP K 4 sq__law_step) :=
  okP T.f__law_step T.g__law_step sc__law_step (fun _ _ _ _ _ _ us hl => match us, hl with | [_, _, _, _], _ => rfl) fun f cdv A outer s H E hr => ⟨_, _, (pss_cons (ps_set (i := 4) sc__law_step.nd rfl (.inl rfl) pe_int)
    (pss_cons (ps_for PassesOwn.never rfl (piEnumT K T.n_enumerate (pa_cons (pv 0) pa_nil)) (pgTup K (n := 2) (pgs_cons (pg_name (i := 5) sc__law_step.nd rfl (.inl rfl)) (pgs_cons (pgTup K (n := 2) (pgs_cons (pg_name (i := 6) sc__law_step.nd rfl (.inl rfl)) (pgs_cons (pg_name (i := 7) sc__law_step.nd rfl (.inl rfl)) pgs_nil))) pgs_nil))) (pss_cons (ps_set (i := 8) sc__law_step.nd rfl (.inl rfl) (pe_op op_oneShl pe_int (pe_op op_sub (pe_ix (ixT K) (pv 1) (pv 5) (fun _ _ => rfl)) (pe_ix (ixL K) (pv 2) (pv 5) (fun _ _ => rfl)))))
    (pss_one (ps_if (pt_cmpR op_eq (pv 5) (pv 3) (nomark _)) (pss_cons (ps_set (i := 9) sc__law_step.nd rfl (.inl rfl) (pe_op op_fdivW (pv 8) pe_int))
    (pss_one (ps_set (i := 4) sc__law_step.nd rfl (.inl rfl) (pe_op op_mulX (pv 4) (pe_op op_sub (pe_op op_fdivW (pe_op op_add (pv 7) (pv 9)) (pv 8)) (pe_op op_fdivW (pe_op op_add (pv 6) (pv 9)) (pv 8))))))) (pss_one (ps_set (i := 4) sc__law_step.nd rfl (.inl rfl) (pe_op op_mulX (pv 4) (pe_callB max2 (by rfl) T.n_max (by decide +kernel) (pa_cons pe_int (pa_cons (pe_op op_add (pe_op op_fdivW (pe_op op_add (pv 7) pe_int) (pv 8)) (pe_op op_fdivW (pe_op op_sub pe_int (pv 6)) (pv 8))) pa_nil))))))))))
    (pss_one (ps_ret (pv 4))))), inferInstance, fun ds c Q hl h => by
    obtain ⟨sh, lv, bx, a, rfl, hs, hb, hlv, ha, hla, q⟩ := h
    have n4 := hs.n4
    have hq : QyOk sh ⟨1, .inl bx⟩ := one_ok hb
    walk_at "pl"
    have ee : zipD (rangeD 0 bx.length) (bx.map dPr) = (List.range bx.length).map fun j => .tup [.int ((j : Nat) : Int), dPr (bx.getD j (0, 0))] := by
      conv => lhs; rw [row_pr (bx := bx)]
      exact enum_range _ _
    rw [ee]
    refine ploop_m (fun i ρ' c' => ∃ y5 y6 y7 y8 y9 : Option Sl, ρ' = [some (.val (dBox bx)), some (.val (dSh sh)), some (.val (.lst (lv.map .int))), some (.val (.int (a : Int))), some (.val (.int (prodI ((List.range i).map (prf sh ⟨1, .inl bx⟩ lv a))))), y5, y6, y7, y8, y9] ∧ c' = c) ⟨none, none, none, none, none, rfl, rfl⟩ ?_ ?_
    · rintro i k ρ' c' hk ⟨y5, y6, y7, y8, y9, rfl, rfl⟩
      obtain ⟨hkl, ek⟩ := mem_rng hk
      subst ek
      clear hk
      have hk : k < sh.length := by rw [← hb.len]; exact hkl
      obtain ⟨b0, b1⟩ := hs.bt (sh.getD k 0) (by rw [List.getD_eq_getElem?_getD, List.getElem?_eq_getElem hk]; exact List.getElem_mem hk)
      have eb : ((bt sh k : Nat) : Int) = sh.getD k 0 := by unfold bt; omega
      obtain ⟨v0, v1⟩ := hlv.at hk
      have hlk : k < lv.length := by rw [hlv.len]; exact hk
      have fs : ∀ j, j < sh.length → (prf sh ⟨1, .inl bx⟩ lv a j).natAbs < 2 ^ 400 := fun j hj => by
        obtain ⟨b0, b1⟩ := hs.bt (sh.getD j 0) (by rw [List.getD_eq_getElem?_getD, List.getElem?_eq_getElem hj]; exact List.getElem_mem hj)
        obtain ⟨u0, u1⟩ := hlv.at hj
        have hjb : bt sh j ≤ 120 := by unfold bt; omega
        unfold prf
        split
        · rename_i e
          subst e
          exact mdF_size hjb (by unfold lvn bt; have := hlv.lo j hj; omega) (hq.ap hj)
        · exact bkF_size hjb u1 (hq.ap hj)
      have ps := prodI_size (k := 400) ((List.range k).map (prf sh ⟨1, .inl bx⟩ lv a)) fun x hx => by
        obtain ⟨j, hj, rfl⟩ := List.mem_map.mp hx
        exact fs j (by have := List.mem_range.mp hj; omega)
      rw [List.length_map, List.length_range] at ps
      have fk := fs k hk
      have ek : prodI ((List.range (k + 1)).map (prf sh ⟨1, .inl bx⟩ lv a)) = prodI ((List.range k).map (prf sh ⟨1, .inl bx⟩ lv a)) * prf sh ⟨1, .inl bx⟩ lv a k := by
        rw [List.range_succ, List.map_append, List.map_cons, List.map_nil, prodI_snoc]
      rw [ek]
      have eap : apk ⟨1, .inl bx⟩ k = .st (bx.getD k (0, 0)).1 (bx.getD k (0, 0)).2 := rfl
      walk_at "pl"
      refine ⟨_, at_int hk, ?_⟩
      walk_at "pl"
      refine ⟨_, at_int hlk, _, rfl, bt sh k - lvn lv k, by omega, by omega, if_d (fun e => ?_) fun e => ?_⟩
      · have e : k = a := by omega
        have ep : prf sh ⟨1, .inl bx⟩ lv a k = mdF (bt sh k) (apk ⟨1, .inl bx⟩ k) (lvn lv k) := if_pos e
        rw [ep] at fk ⊢
        subst e
        rw [eap, md_floor (by unfold lvn bt; omega)] at fk ⊢
        exact ⟨cdiv_of (k := 2) (by decide) (by decide) (by decide), cdiv_pow (by omega), cdiv_pow (by omega), mulx_ok (a := 1601) (b := 400) (qz_mono ps (by omega)) fk (by decide), rfl⟩
      · have e : ¬ k = a := by omega
        have ep : prf sh ⟨1, .inl bx⟩ lv a k = bkF (bt sh k) (apk ⟨1, .inl bx⟩ k) (lvn lv k) := if_neg e
        rw [ep] at fk ⊢
        rw [eap, bk_floor] at fk ⊢
        exact ⟨cdiv_pow (by omega), cdiv_pow (by omega), mulx_ok (a := 1601) (b := 400) (qz_mono ps (by omega)) fk (by decide), rfl⟩
    · rintro ρ' c' ⟨y5, y6, y7, y8, y9, rfl, rfl⟩
      walk_at "pl"
      rw [hb.len]
      exact q⟩
def greatS : List D := [dSh [21, 21, 21], dSh [40, 40, 40], dSh [64, 64], dSh [120, 120], dSh [16, 16, 16, 16], dSh [60, 60, 60, 60], dSh [80, 80, 80], dSh [120]]
theorem great_at {r : Int} (r0 : 0 ≤ r) (r1 : r < 8) : ∃ s : List Int, ShOk s ∧ atI greatS r = some (dSh s) := by
  rcases (show r = 0 ∨ r = 1 ∨ r = 2 ∨ r = 3 ∨ r = 4 ∨ r = 5 ∨ r = 6 ∨ r = 7 by omega) with rfl | rfl | rfl | rfl | rfl | rfl | rfl | rfl
  · exact ⟨[21, 21, 21], ⟨by decide, by decide, by decide, by decide⟩, at_nat (j := 0) rfl rfl⟩
  · exact ⟨[40, 40, 40], ⟨by decide, by decide, by decide, by decide⟩, at_nat (j := 1) rfl rfl⟩
  · exact ⟨[64, 64], ⟨by decide, by decide, by decide, by decide⟩, at_nat (j := 2) rfl rfl⟩
  · exact ⟨[120, 120], ⟨by decide, by decide, by decide, by decide⟩, at_nat (j := 3) rfl rfl⟩
  · exact ⟨[16, 16, 16, 16], ⟨by decide, by decide, by decide, by decide⟩, at_nat (j := 4) rfl rfl⟩
  · exact ⟨[60, 60, 60, 60], ⟨by decide, by decide, by decide, by decide⟩, at_nat (j := 5) rfl rfl⟩
  · exact ⟨[80, 80, 80], ⟨by decide, by decide, by decide, by decide⟩, at_nat (j := 6) rfl rfl⟩
  · exact ⟨[120], ⟨by decide, by decide, by decide, by decide⟩, at_nat (j := 7) rfl rfl⟩
def sq__law_great_right : PSp := fun ds c Q => ds = [.brk] ∧ c.n ≤ 2 ^ 50 ∧ ∀ c', c.n ≤ c'.n → c'.n ≤ c.n + 10000 → Q (.bl true) c'
theorem Q__law_great_right (T : Txt K mg) : Ok P w K mg base CX0 17 "_law_great_right" ["_law_bowl_here"] (spP K 1 sq__law_great_right) :=
  okP T.f__law_great_right T.g__law_great_right sc__law_great_right (fun _ _ _ _ _ _ us hl => match us, hl with | [_], _ => rfl) fun f cdv A outer s H E hr => ⟨_, _, (pss_cons (ps_set (i := 1) sc__law_great_right.nd rfl (.inl rfl) (pe_lst (pa_cons (pe_tup (pa_cons pe_int (pa_cons pe_int (pa_cons pe_int pa_nil)))) (pa_cons (pe_tup (pa_cons pe_int (pa_cons pe_int (pa_cons pe_int pa_nil)))) (pa_cons (pe_tup (pa_cons pe_int (pa_cons pe_int pa_nil))) (pa_cons (pe_tup (pa_cons pe_int (pa_cons pe_int pa_nil))) (pa_cons (pe_tup (pa_cons pe_int (pa_cons pe_int (pa_cons pe_int (pa_cons pe_int pa_nil))))) (pa_cons (pe_tup (pa_cons pe_int (pa_cons pe_int (pa_cons pe_int (pa_cons pe_int pa_nil))))) (pa_cons (pe_tup (pa_cons pe_int (pa_cons pe_int (pa_cons pe_int pa_nil)))) (pa_cons (pe_tup (pa_cons pe_int pa_nil)) pa_nil))))))))))
    (pss_cons (ps_set (i := 2) sc__law_great_right.nd rfl (.inl rfl) (pe_ix (ixL K) (pv 1) (cal (Q__law_pick (K := K) T) hr (pa_cons (pv 0) (pa_cons (pe_callB (lenU K) (by rfl) T.n_len (by decide +kernel) (pa_cons (pv 1) pa_nil)) pa_nil))) (fun _ _ => rfl)))
    (pss_cons (ps_par (i := 3) (j := 4) rfl sc__law_great_right.nd rfl rfl (by decide) rfl rfl (pa_cons (cal (Q__law_word (K := K) T) hr (pa_cons (pv 0) (pa_cons (pv 2) pa_nil))) (pa_cons (cal (Q__law_box (K := K) T) hr (pa_cons (pv 0) (pa_cons (pv 2) pa_nil))) pa_nil)) (by rfl))
    (pss_cons (ps_par3 (i := 5) (j := 6) (l := 7) rfl sc__law_great_right.nd rfl rfl rfl (by decide) (by decide) (by decide) rfl rfl rfl (pa_cons (pe_own (pe_op op_rep (pe_lst (pa_cons pe_int pa_nil)) (pe_callB (lenU K) (by rfl) T.n_len (by decide +kernel) (pa_cons (pv 2) pa_nil)))) (pa_cons (pe_own (pe_lst pa_nil)) (pa_cons pe_int pa_nil))) (by rfl))
    (pss_cons (ps_for PassesOwn.never rfl (pi_str (pv 3)) (pg_name (i := 8) sc__law_great_right.nd rfl (.inl rfl)) (pss_cons (ps_set (i := 9) sc__law_great_right.nd rfl (.inl rfl) (bmK K PySem.F.plainAttrs_str PySem.F.slot_str_find PySem.F.type_str_find mt_sfind pe_str (pa_cons (pv 8) pa_nil)))
    (pss_cons (ps_expr (bmK K PySem.F.plainAttrs_list PySem.F.slot_list_append PySem.F.type_list_append mt_append (pv 6) (pa_cons (pe_bor 5 (cal (Q__law_step (K := K) T) hr (pa_cons (pv 4) (pa_cons (pv 2) (pa_cons (pv 5) (pa_cons (pv 9) pa_nil)))))) pa_nil)))
    (pss_one (ps_asg (pe_op op_add (pe_ix (ixL K) (pv 5) (pv 9) (fun _ _ => rfl)) pe_int) (pg_sub (pv 5) (pv 9) set_list))))))
    (pss_cons (ps_for PassesOwn.never rfl (piT K (pv 4)) (pgTup K (n := 2) (pgs_cons (pg_name (i := 10) sc__law_great_right.nd rfl (.inl rfl)) (pgs_cons (pg_name (i := 11) sc__law_great_right.nd rfl (.inl rfl)) pgs_nil))) (pss_one (ps_set (i := 7) sc__law_great_right.nd rfl (.inl rfl) (pe_op op_mulX (pv 7) (pe_op op_add (pe_op op_sub (pv 11) (pv 10)) pe_int)))))
    (pss_one (ps_frz 6 (ps_ret (pe_cmpR (eqD K hr) (pe_lst (pa_cons (cal (Q_step_pairs (K := K) T) hr (pa_cons (mkO (O_Weave___init__ (K := K) T) T.m_Weave T.g_Weave hr (pa_cons (pv 3) pa_nil)) (pa_cons (pv 4) pa_nil))) (pa_cons (cal (Q_count_ranges (K := K) T) hr (pa_cons (mkO (O_Weave___init__ (K := K) T) T.m_Weave T.g_Weave hr (pa_cons (pv 3) pa_nil)) (pa_cons (pv 4) pa_nil))) pa_nil))) (pe_lst (pa_cons (pv 6) (pa_cons (pe_op op_sub (pv 7) (pe_callB (sumL K) (by rfl) T.n_sum (by decide +kernel) (pa_cons (pv 6) pa_nil))) pa_nil))) (nomark _))))))))))), inferInstance, fun ds c Q hl h => by
    obtain ⟨rfl, hc, q⟩ := h
    have p50 : (2 : Nat) ^ 50 = 1125899906842624 := by decide
    have p57 : (2 : Nat) ^ 57 = 144115188075855872 := by decide
    have p58 : (2 : Nat) ^ 58 = 288230376151711744 := by decide
    have p59 : (2 : Nat) ^ 59 = 576460752303423488 := by decide
    walk_at "pl"
    refine ⟨8, rfl, by omega, by decide, small1000' (by decide), fun r r0 r1 => ?_⟩
    obtain ⟨s, hs, hat⟩ := great_at r0 r1
    have hs0 : ∀ x ∈ s, 0 ≤ x := fun x hx => by have := (hs.bt x hx).1; omega
    refine ⟨r, rfl, dSh s, hat, s, dSh s, rfl, .inl rfl, by rw [Om.add_n]; omega, hs.n1, hs.n4, hs0, hs.sm, fun l c1 m0 m1 t1 t2 t3 => ⟨s, rfl, by rw [Om.add_n] at m0 m1; omega, hs.n4, (fun x hx => by have := hs.bt x hx; omega), fun bx c2 k0 k1 hb => ?_⟩⟩
    have hW := wok_of hs t1 t2 t3
    have n4 := hs.n4
    have ez : (List.replicate s.length [D.int 0]).flatten = (cnts (l.take 0) s.length).map .int := by
      rw [List.take_zero, cnts_nil, List.map_replicate]
      exact flat_one _ _
    rw [Om.add_n] at m0 m1
    refine ⟨s.length, by rw [dSh_eq, lenD_tup, List.length_map], by omega, by omega, by omega, ?_⟩
    rw [ez]
    refine ⟨_, rfl, ?_⟩
    walk_at "pl"
    refine ploop_m (f := fun c : Nat => D.str ⟨#[c]⟩) (fun i ρ' c' => ∃ y8 y9 y10 y11 : Option Sl, ρ' = [some (.val .brk), some (.val (.lst greatS)), some (.val (dSh s)), some (.val (.str (sg l))), some (.val (dBox bx)), some (.own ((cnts (l.take i) s.length).map .int)), some (.own ((List.range i).map fun j => .int (prL s bx l j))), some (.val (.int 1)), y8, y9, y10, y11] ∧ c' = c2) ⟨none, none, none, none, rfl, rfl⟩ ?_ ?_
    · rintro i e ρ' c' he ⟨y8, y9, y10, y11, rfl, rfl⟩
      have hi := (List.getElem?_eq_some_iff.mp he).1
      have hge : l.getD i 0 = e := by rw [List.getD_eq_getElem?_getD, he]; rfl
      obtain ⟨hlv, l1, l2⟩ := lv_path hW t2 hi
      obtain ⟨e1, e2⟩ := hW.rng e (List.mem_of_getElem? he)
      rw [hge] at l1 l2
      have h240 := hW.le
      walk_at "pl"
      refine ⟨e - 97, _, abcd_index e1 (by omega), s, _, bx, e - 97, rfl, hs, hb, hlv, l1, l2, rfl, by omega, _, at_int (by rw [cnts_len]; exact l1), _, rfl, e - 97, ixN_nat (by rw [cnts_len]; exact l1), ?_, ?_, rfl⟩
      · rw [take_snocG he, cnts_bump e1 e2]
        unfold WQ.bump
        rw [List.map_set]
      · unfold prL
        rw [List.range_succ, List.map_append, List.map_cons, List.map_nil, hge]
    · rintro ρ' c' ⟨y8, y9, y10, y11, rfl, rfl⟩
      walk_at "pl"
      have hx := box_side hs hb
      refine ploop_m (fun i ρ' c9 => ∃ y8 y9 y10 y11 : Option Sl, ρ' = [some (.val .brk), some (.val (.lst greatS)), some (.val (dSh s)), some (.val (.str (sg l))), some (.val (dBox bx)), some (.own ((cnts (l.take l.length) s.length).map .int)), some (.own ((List.range l.length).map fun j => .int (prL s bx l j))), some (.val (.int (prodI ((bx.take i).map fun p => p.2 - p.1 + 1)))), y8, y9, y10, y11] ∧ c9 = c') ⟨y8, y9, y10, y11, rfl, rfl⟩ ?_ ?_
      · rintro i e ρ' c' he ⟨y8, y9, y10, y11, rfl, rfl⟩
        have hi := (List.getElem?_eq_some_iff.mp he).1
        have b1 := prodI_size (k := 400) ((bx.take i).map fun p => p.2 - p.1 + 1) fun x h => by
          obtain ⟨p, hp, rfl⟩ := List.mem_map.mp h
          exact hx p (List.mem_of_mem_take hp)
        walk_at "pl"
        refine ⟨mulx_ok (a := 1601) (b := 400) (qz_mono b1 (by have := hb.len; rw [List.length_map, List.length_take]; omega)) (hx e (List.mem_of_getElem? he)) (by decide), ?_⟩
        rw [take_snocG he, List.map_append]
        exact (prodI_snoc _ _).symm
      · rintro ρ' c' ⟨y8, y9, y10, y11, rfl, rfl⟩
        walk_at "pl"
        have ek : (List.range l.length).map (fun j => D.int (prL s bx l j)) = ((List.range l.length).map fun j => prL s bx l j).map .int := by rw [List.map_map]; rfl
        have cm : ∀ (ns : List Int) (x : Int), cmpOk (.lst [.lst (ns.map .int), .int x]) ∧ WP.eqD (.lst [.lst (ns.map .int), .int x]) (.lst [.lst (ns.map .int), .int x]) = true := fun ns x => by
          have lk : LOk 2 (toPy (.lst [.lst (ns.map .int), .int x])) := by
            show LOk 2 (.list [.list (toPys (ns.map .int)), .int x])
            rw [toPys_ints]
            exact LOk.list fun d hd => by
              rcases List.mem_cons.mp hd with rfl | hd
              · exact LOk.ints
              · rw [List.mem_singleton.mp hd]
                exact LOk.int.mono (by decide)
          exact ⟨cmpOk_of (h := 2) (by show (dats (ns.map D.int) && (true && true)) = true; rw [dats_ints]; rfl) lk, eqD_refl (h := 2) lk⟩
        refine weave_q hW ⟨s, bx, l, rfl, hs, hb, hW, t2, weave_q hW ⟨s, bx, l, rfl, hs, hb, hW, t2, (List.range l.length).map fun j => prL s bx l j, ek, ?_⟩⟩
        rw [List.take_length, ek]
        have en : nR s bx l = prodI (bx.map fun p => p.2 - p.1 + 1) - ((List.range l.length).map fun j => prL s bx l j).sum := rfl
        rw [← en]
        obtain ⟨m1, m2⟩ := cm ((List.range l.length).map fun j => prL s bx l j) (nR s bx l)
        refine ⟨m1, m1, ?_⟩
        rw [m2]
        exact q _ (by omega) (by omega)⟩

end
section
open WQ WM
variable {P : Program} {w : World} {K : PySem.W.Frag} {mg : Str → Option Value} {base : Heap}
/-! ### pairs at each step, key by key and by finer cells -/
structure Wdr (sh more : List Int) (t : List Nat) : Prop where
  len : more.length = sh.length
  bnd : ∀ k, k < sh.length → 0 ≤ more.getD k 0 ∧ sh.getD k 0 + more.getD k 0 ≤ 120
  sm : sh.sum + more.sum ≤ 240
  al : ∀ x ∈ t, 97 ≤ x ∧ x < 97 + sh.length
  cn : cnts t sh.length = more
theorem wideS_len (sh more : List Int) : (wideS sh more).length = sh.length := by unfold wideS; rw [List.length_map, List.length_range]
theorem wideS_get {sh more : List Int} {k : Nat} (hk : k < sh.length) : (wideS sh more).getD k 0 = sh.getD k 0 + more.getD k 0 := by
  unfold wideS
  rw [List.getD_eq_getElem?_getD, List.getElem?_map, List.getElem?_range hk]
  rfl
theorem wideS_sum {sh more : List Int} (h : more.length = sh.length) : (wideS sh more).sum = sh.sum + more.sum := by
  unfold wideS
  rw [sum_add2 (fun k => sh.getD k 0) (fun k => more.getD k 0), getD_self sh]
  conv => lhs; rw [← h, getD_self more]
section
variable {sh more : List Int} {l t : List Nat} {bx : List (Int × Int)}
theorem Wdr.cnt (W : Wdr sh more t) {k : Nat} (hk : k < sh.length) : more.getD k 0 = (t.count (97 + k) : Nat) := by
  have h := cnts_at (l := t) hk
  rw [W.cn] at h
  rw [List.getD_eq_getElem?_getD, h]
  rfl
theorem Wdr.tlen (W : Wdr sh more t) : (t.length : Int) = more.sum := by
  rw [← W.cn, cnts_sum, List.filter_eq_self.mpr]
  intro c hc
  exact decide_eq_true (W.al c hc)
theorem Wdr.shp (W : Wdr sh more t) (hs : ShOk sh) : ShOk (wideS sh more) := by
  refine ⟨by rw [wideS_len]; exact hs.n1, by rw [wideS_len]; exact hs.n4, fun b hb => ?_, by rw [wideS_sum W.len]; exact W.sm⟩
  unfold wideS at hb
  obtain ⟨k, hk, rfl⟩ := List.mem_map.mp hb
  have hk := List.mem_range.mp hk
  have h1 := (hs.at hk).1
  have h2 := W.bnd k hk
  omega
theorem Wdr.wk (W : Wdr sh more t) (hW : WK.WOk l sh.length) (hl : cnts l sh.length = sh) : WK.WOk (l ++ t) sh.length := by
  refine wok_more hW W.al (fun k hk => ?_) ?_
  · have h1 := cnts_get hl hk
    have h2 := W.cnt hk
    have h3 := W.bnd k hk
    omega
  · have h1 := hW.sum
    rw [hl] at h1
    have h2 := W.tlen
    have h3 := W.sm
    omega
theorem Wdr.c (W : Wdr sh more t) (hl : cnts l sh.length = sh) : cnts (l ++ t) sh.length = wideS sh more := by
  unfold cnts wideS
  refine List.map_congr_left fun k hk => ?_
  have hk := List.mem_range.mp hk
  rw [cnts_get hl hk, W.cnt hk, List.count_append, Int.natCast_add]
theorem Wdr.box (W : Wdr sh more t) (hs : ShOk sh) (hb : BoxSh sh bx) : BoxSh (wideS sh more) (wideB bx more) := by
  refine ⟨by rw [wideB_len, wideS_len, hb.len], fun k hk => ?_, fun k hk => ?_, fun k hk => ?_⟩ <;> rw [wideS_len] at hk <;> rw [wideB_get (by rw [hb.len]; exact hk)] <;> have h0 := hb.lo k hk <;> have h1 := hb.le k hk <;> have h2 := hb.hi k hk <;> have hp := pow_pos' (more.getD k 0).toNat
  · exact Int.mul_nonneg h0 (Int.le_of_lt hp)
  · have : (bx.getD k (0, 0)).1 * 2 ^ (more.getD k 0).toNat < ((bx.getD k (0, 0)).2 + 1) * 2 ^ (more.getD k 0).toNat := Int.mul_lt_mul_of_pos_right (by omega) hp
    show _ * _ ≤ _ * _ - 1
    omega
  · have : ((bx.getD k (0, 0)).2 + 1) * 2 ^ (more.getD k 0).toNat ≤ 2 ^ (sh.getD k 0).toNat * 2 ^ (more.getD k 0).toNat := Int.mul_le_mul_of_nonneg_right (by omega) (Int.le_of_lt hp)
    rw [wideS_get hk]
    have h3 := (hs.at hk).1
    have h4 := W.bnd k hk
    rw [show (sh.getD k 0 + more.getD k 0).toNat = (sh.getD k 0).toNat + (more.getD k 0).toNat by omega, Int.pow_add]
    show _ * _ - 1 < _
    omega
theorem Wdr.bit (W : Wdr sh more t) (hs : ShOk sh) {k : Nat} (hk : k < sh.length) : bt (wideS sh more) k = bt sh k + (more.getD k 0).toNat := by
  unfold bt
  rw [wideS_get hk]
  have h3 := (hs.at hk).1
  have h4 := W.bnd k hk
  omega
/-- ahead of the finer letters: the same pairs -/
theorem Wdr.ahead (W : Wdr sh more t) (hs : ShOk sh) (hW : WK.WOk l sh.length) (hl : cnts l sh.length = sh) (hb : BoxSh sh bx) {j : Nat} (hj : j < l.length) : prL (wideS sh more) (wideB bx more) (l ++ t) j = prL sh bx l j := by
  have e1 : (l ++ t).take j = l.take j := List.take_append_of_le_length (by omega)
  have e2 : (l ++ t).getD j 0 = l.getD j 0 := by rw [List.getD_eq_getElem?_getD, List.getElem?_append_left hj, ← List.getD_eq_getElem?_getD]
  unfold prL prs
  rw [e1, e2, wideS_len]
  refine congrArg prodI (List.map_congr_left fun k hk => ?_)
  have hk := List.mem_range.mp hk
  obtain ⟨hlv, l1, l2⟩ := lv_path hW hl hj
  obtain ⟨v0, v1⟩ := hlv.at hk
  unfold prf
  rw [W.bit hs hk]
  have ea : apk ⟨1, .inl (wideB bx more)⟩ k = .st ((bx.getD k (0, 0)).1 * 2 ^ (more.getD k 0).toNat) (((bx.getD k (0, 0)).2 + 1) * 2 ^ (more.getD k 0).toNat - 1) := by
    show AP.st ((wideB bx more).getD k (0, 0)).1 ((wideB bx more).getD k (0, 0)).2 = _
    rw [wideB_get (by rw [hb.len]; exact hk)]
  rw [ea]
  by_cases e : k = l.getD j 0 - 97
  · rw [if_pos e, if_pos e]
    refine md_fine ?_
    rw [← e] at l2
    unfold lvn bt
    have := hlv.lo k hk
    omega
  · rw [if_neg e, if_neg e]
    exact bk_fine v1
theorem prodI_pow (f : Nat → Int) (g : Nat → Nat) : ∀ ks : List Nat, prodI (ks.map fun k => f k * 2 ^ g k) = prodI (ks.map f) * 2 ^ (ks.map g).sum
  | [] => rfl
  | k :: ks => by
    rw [List.map_cons, List.map_cons, List.map_cons, List.sum_cons, Int.pow_add]
    show f k * 2 ^ g k * prodI _ = f k * prodI _ * _
    rw [prodI_pow f g ks]
    generalize prodI (ks.map f) = p
    generalize (2 : Int) ^ (ks.map g).sum = u
    generalize (2 : Int) ^ g k = v
    rw [Int.mul_assoc, Int.mul_assoc]
    congr 1
    rw [← Int.mul_assoc, Int.mul_comm v p, Int.mul_assoc]
theorem cnt_all {xs : List Nat} {n : Nat} (h : ∀ x ∈ xs, 97 ≤ x ∧ x < 97 + n) : ((List.range n).map fun k => xs.count (97 + k)).sum = xs.length := by
  have h1 := cnts_sum xs n
  rw [List.filter_eq_self.mpr fun c hc => decide_eq_true (h c hc)] at h1
  have h2 : ∀ ks : List Nat, (ks.map fun k => (xs.count (97 + k) : Int)).sum = (((ks.map fun k => xs.count (97 + k)).sum : Nat) : Int) := fun ks => by
    induction ks with
    | nil => rfl
    | cons k ks ih => rw [List.map_cons, List.map_cons, List.sum_cons, List.sum_cons, ih, Int.natCast_add]
  unfold cnts at h1
  rw [h2] at h1
  omega
/-- behind the letters: cells halved again and again -/
theorem Wdr.behind (W : Wdr sh more t) (hs : ShOk sh) (hW : WK.WOk l sh.length) (hl : cnts l sh.length = sh) (hb : BoxSh sh bx) {e : Nat} (he : e < t.length) : prL (wideS sh more) (wideB bx more) (l ++ t) (l.length + e) = prodI (bx.map fun p => p.2 - p.1 + 1) * 2 ^ e := by
  have e1 : (l ++ t).take (l.length + e) = l ++ t.take e := by rw [List.take_append, List.take_of_length_le (by omega), Nat.add_sub_cancel_left]
  have e2 : (l ++ t).getD (l.length + e) 0 = t.getD e 0 := by rw [List.getD_eq_getElem?_getD, List.getElem?_append_right (by omega), Nat.add_sub_cancel_left, ← List.getD_eq_getElem?_getD]
  have hte : t.getD e 0 = t[e] := by rw [List.getD_eq_getElem?_getD, List.getElem?_eq_getElem he]; rfl
  have hal := W.al _ (List.getElem_mem he)
  have e3 : (bx.map fun p => p.2 - p.1 + 1) = (List.range sh.length).map fun k => (bx.getD k (0, 0)).2 - (bx.getD k (0, 0)).1 + 1 := by
    rw [← hb.len]
    apply List.ext_getElem?
    intro i
    by_cases h : i < bx.length
    · rw [List.getElem?_map, List.getElem?_map, List.getElem?_range h, get_some (d := (0, 0)) h]
      rfl
    · rw [List.getElem?_eq_none (by rw [List.length_map]; omega), List.getElem?_eq_none (by rw [List.length_map, List.length_range]; omega)]
  have e4 := cnt_all (xs := t.take e) (n := sh.length) fun x hx => W.al x (List.mem_of_mem_take hx)
  rw [List.length_take, Nat.min_eq_left (by omega)] at e4
  unfold prL prs
  rw [e1, e2, wideS_len, e3]
  conv => rhs; rw [← e4]
  rw [← prodI_pow]
  refine congrArg prodI (List.map_congr_left fun k hk => ?_)
  have hk := List.mem_range.mp hk
  have hbl := hb.le k hk
  have hm := W.cnt hk
  have hlv : lvn (cnts (l ++ t.take e) sh.length) k = bt sh k + (t.take e).count (97 + k) := by
    unfold lvn bt
    rw [List.getD_eq_getElem?_getD, cnts_at hk, cnts_get hl hk, List.count_append]
    show Int.toNat ((l.count (97 + k) + (t.take e).count (97 + k) : Nat) : Int) = _
    omega
  have hc : (t.take e).count (97 + k) ≤ t.count (97 + k) := (List.take_sublist e t).count_le _
  unfold prf
  rw [W.bit hs hk, hlv]
  have ea : apk ⟨1, .inl (wideB bx more)⟩ k = .st ((bx.getD k (0, 0)).1 * 2 ^ (more.getD k 0).toNat) (((bx.getD k (0, 0)).2 + 1) * 2 ^ (more.getD k 0).toNat - 1) := by
    show AP.st ((wideB bx more).getD k (0, 0)).1 ((wideB bx more).getD k (0, 0)).2 = _
    rw [wideB_get (by rw [hb.len]; exact hk)]
  rw [ea]
  by_cases q : k = t.getD e 0 - 97
  · rw [if_pos q]
    refine md_deep ?_
    have h1 := cnt_lt he
    rw [hte] at q
    rw [show t[e] = 97 + k by omega] at h1
    omega
  · rw [if_neg q]
    exact bk_deep (by omega) hbl
end
theorem prL_size {sh : List Int} {bx : List (Int × Int)} {l : List Nat} {j : Nat} (hs : ShOk sh) (hb : BoxSh sh bx) (hW : WK.WOk l sh.length) (hl : cnts l sh.length = sh) (hj : j < l.length) : (prL sh bx l j).natAbs < 2 ^ 1601 := by
  obtain ⟨hlv, l1, l2⟩ := lv_path hW hl hj
  have hq : QyOk sh ⟨1, .inl bx⟩ := one_ok hb
  unfold prL prs
  refine qz_mono (prodI_size (k := 400) _ fun x hx => ?_) (by have := hs.n4; rw [List.length_map, List.length_range]; omega)
  obtain ⟨k, hk, rfl⟩ := List.mem_map.mp hx
  have hk := List.mem_range.mp hk
  obtain ⟨b0, b1⟩ := hs.at hk
  obtain ⟨u0, u1⟩ := hlv.at hk
  have hjb : bt sh k ≤ 120 := by unfold bt; omega
  unfold prf
  split
  · rename_i e
    rw [← e] at l2
    exact mdF_size hjb (by unfold lvn bt; have := hlv.lo k hk; omega) (hq.ap hk)
  · exact bkF_size hjb u1 (hq.ap hk)
theorem ne_no {α : Type} {a b : α} [Decidable (a = b)] (h : a = b) : (!decide (a = b)) = false := by rw [decide_eq_true h]; rfl
theorem cells_prod {sh : List Int} {bx : List (Int × Int)} (hb : BoxSh sh bx) : ((cellsBx bx).length : Int) = prodI (bx.map fun p => p.2 - p.1 + 1) := by
  have key : ∀ i, i ≤ bx.length → ((cellsBx (bx.take i)).length : Int) = prodI ((bx.take i).map fun p => p.2 - p.1 + 1) := fun i => by
    induction i with
    | zero => intro _; rw [List.take_zero]; rfl
    | succ i ih =>
      intro hi
      have hg := get_some (d := ((0 : Int), (0 : Int))) (xs := bx) (k := i) (by omega)
      have h1 := hb.le i (by rw [← hb.len]; omega)
      rw [take_snocG hg, cellsBx_snoc, growB_len, List.map_append, List.map_cons, List.map_nil, prodI_snoc, Int.natCast_mul, ih (by omega)]
      congr 1
      omega
  have := key bx.length (Nat.le_refl _)
  rwa [List.take_length] at this
theorem noLs_ints (ns : List Int) : noLs (ns.map D.int) = true := noLs_map fun _ _ => rfl
theorem noL_box (bx : List (Int × Int)) : noL (.tup (bx.map dPr)) = true := noLs_map fun _ _ => rfl
theorem noL_weave (l : List Nat) (n : Nat) : noL (dW l n) = true := by
  rw [dW_eq]
  show (true && (noLs ((cnts l n).map D.int) && true)) = true
  rw [noLs_ints]
  rfl
theorem noLs_two (l : List Nat) (n : Nat) (bx : List (Int × Int)) : noLs [dW l n, .tup (bx.map dPr)] = true := by
  show (noL _ && (noL _ && true)) = true
  rw [noL_weave, noL_box]
  rfl
theorem cut_to (xs : List D) (k : Nat) : cutP xs none (some (k : Int)) = xs.take k := by
  unfold cutP
  rw [HT.sIx_nat, HT.sIx_none]
  show (xs.drop 0).take (min k xs.length - 0) = xs.take k
  rw [List.drop_zero, Nat.sub_zero]
  by_cases h : k ≤ xs.length
  · rw [Nat.min_eq_left h]
  · rw [Nat.min_eq_right (by omega), List.take_of_length_le (Nat.le_refl _), List.take_of_length_le (by omega)]
def sq__law_right : PSp := fun ds c Q => ∃ sh : List Int, ds = [.brk, dSh sh] ∧ c.n ≤ 2 ^ 50 ∧ ShOk sh ∧ sh.sum ≤ 9 ∧ ∀ c', c.n ≤ c'.n → c'.n ≤ c.n + 20000 → Q (.bl true) c'
theorem Q__law_right (T : Txt K mg) : OkG P w K mg base CX0 17 "_law_right" ["_law_bowl_here", "_law_sizes_here"] (spP K 2 sq__law_right) :=
  okPG T.f__law_right T.g__law_right sc__law_right (fun _ _ _ _ _ _ us hl => match us, hl with | [_, _], _ => rfl) fun f cdv A outer s H E hr gd => ⟨_, _, (pss_cons (ps_par (i := 2) (j := 3) rfl sc__law_right.nd rfl rfl (by decide) rfl rfl (pa_cons (cal (Q__law_word (K := K) T) hr (pa_cons (pv 0) (pa_cons (pv 1) pa_nil))) (pa_cons (cal (Q__law_box (K := K) T) hr (pa_cons (pv 0) (pa_cons (pv 1) pa_nil))) pa_nil)) (by rfl))
    (pss_cons (ps_par (i := 4) (j := 5) rfl sc__law_right.nd rfl rfl (by decide) rfl rfl (pa_cons (cal (Q__law_pairs (K := K) T) hr (pa_cons (pv 2) (pa_cons (pv 1) (pa_cons (pv 3) pa_nil)))) (pa_cons (mkO (O_Weave___init__ (K := K) T) T.m_Weave T.g_Weave hr (pa_cons (pv 2) pa_nil)) pa_nil)) (by rfl))
    (pss_cons (ps_for PassesOwn.never rfl (pi_range1 (by rfl) T.n_range (pa_cons pe_int pa_nil)) (pg_name (i := 6) sc__law_right.nd rfl (.inl rfl)) (pss_cons (ps_set (i := 7) sc__law_right.nd rfl (.inl rfl) (pe_own (cal (Q_step_pairs (K := K) T) hr (pa_cons (pv 5) (pa_cons (pv 3) pa_nil)))))
    (pss_cons (ps_if (pt_cmpR op_ne (pe_callB (reprD K hr gd) (by rfl) T.n_repr (by decide +kernel) (pa_cons (pv 7) pa_nil)) (pe_callB (reprD K hr gd) (by rfl) T.n_repr (by decide +kernel) (pa_cons (pv 4) pa_nil)) (nomark _)) (pss_one (ps_ret pe_bl)) pss_nil)
    (pss_one (ps_expr (bmK K PySem.F.plainAttrs_list PySem.F.slot_list_append PySem.F.type_list_append mt_append (pv 7) (pa_cons pe_int pa_nil)))))))
    (pss_cons (ps_set (i := 8) sc__law_right.nd rfl (.inl rfl) (pe_callB (lenU K) (by rfl) T.n_len (by decide +kernel) (pa_cons (cal (Q__law_cells (K := K) T) hr (pa_cons (pv 3) pa_nil)) pa_nil)))
    (pss_cons (ps_if (pt_cmpR op_ne (pe_op op_sub (pv 8) (pe_callB (sumL K) (by rfl) T.n_sum (by decide +kernel) (pa_cons (pv 4) pa_nil))) (cal (Q_count_ranges (K := K) T) hr (pa_cons (pv 5) (pa_cons (pv 3) pa_nil))) (nomark _)) (pss_one (ps_ret pe_bl)) pss_nil)
    (pss_cons (ps_asg (cal (Q__law_wide (K := K) T) hr (pa_cons (pv 0) (pa_cons (pv 1) (pa_cons (pv 2) pa_nil)))) (pgTup K (n := 3) (pgs_cons (pg_name (i := 9) sc__law_right.nd rfl (.inl rfl)) (pgs_cons (pg_name (i := 10) sc__law_right.nd rfl (.inl rfl)) (pgs_cons (pg_name (i := 11) sc__law_right.nd rfl (.inl rfl)) pgs_nil)))))
    (pss_cons (ps_par (i := 7) (j := 12) rfl sc__law_right.nd rfl rfl (by decide) rfl rfl (pa_cons (pe_own (cal (Q_step_pairs (K := K) T) hr (pa_cons (mkO (O_Weave___init__ (K := K) T) T.m_Weave T.g_Weave hr (pa_cons (pv 11) pa_nil)) (pa_cons (cal (Q__law_wider (K := K) T) hr (pa_cons (pv 3) (pa_cons (pv 10) pa_nil))) pa_nil)))) (pa_cons (pv 8) pa_nil)) (by rfl))
    (pss_cons (ps_if (PW.pt (pw_or (pt_cmpR (neD K hr) (pe_slice (slL K) (pv 7) po_none (po_some (pe_callB (lenU K) (by rfl) T.n_len (by decide +kernel) (pa_cons (pv 2) pa_nil)))) (pv 4) (nomark _)) (pw_or1 (pt_cmpR op_ne (pe_callB (lenU K) (by rfl) T.n_len (by decide +kernel) (pa_cons (pv 7) pa_nil)) (pe_callB (lenU K) (by rfl) T.n_len (by decide +kernel) (pa_cons (pv 11) pa_nil)) (nomark _))))) (pss_one (ps_ret pe_bl)) pss_nil)
    (pss_cons (ps_for PassesOwn.never rfl (piL K (pe_slice (slL K) (pv 7) (po_some (pe_callB (lenU K) (by rfl) T.n_len (by decide +kernel) (pa_cons (pv 2) pa_nil))) po_none)) (pg_name (i := 13) sc__law_right.nd rfl (.inl rfl)) (pss_cons (ps_if (pt_cmpR op_ne (pv 13) (pv 12) (nomark _)) (pss_one (ps_ret pe_bl)) pss_nil)
    (pss_one (ps_set (i := 12) sc__law_right.nd rfl (.inl rfl) (pe_op op_mulX pe_int (pv 12))))))
    (pss_one (ps_ret pe_bl))))))))))), inferInstance, fun ds c Q hl h => by
    obtain ⟨sh, rfl, hc, hs, h9, q⟩ := h
    have p50 : (2 : Nat) ^ 50 = 1125899906842624 := by decide
    have p57 : (2 : Nat) ^ 57 = 144115188075855872 := by decide
    have p58 : (2 : Nat) ^ 58 = 288230376151711744 := by decide
    have p59 : (2 : Nat) ^ 59 = 576460752303423488 := by decide
    have hs0 : ∀ x ∈ sh, 0 ≤ x := fun x hx => by have := (hs.bt x hx).1; omega
    walk_at "pl"
    refine ⟨sh, _, rfl, .inl rfl, by omega, hs.n1, hs.n4, hs0, hs.sm, fun l c1 m0 m1 t1 t2 t3 => ⟨sh, rfl, by omega, hs.n4, (fun x hx => by have := hs.bt x hx; omega), fun bx c2 k0 k1 hb => ?_⟩⟩
    have hW := wok_of hs t1 t2 t3
    have h240 := hW.le
    have hl9 : l.length ≤ 9 := by omega
    refine ⟨l, sh, bx, rfl, hs, h9, hW, t2, hb, weave_q hW ⟨by decide, by decide, ?_⟩⟩
    have ek : (List.range l.length).map (fun j => D.int (prL sh bx l j)) = ((List.range l.length).map fun j => prL sh bx l j).map .int := by rw [List.map_map]; rfl
    have rok : repOk (.lst ((List.range l.length).map fun j => D.int (prL sh bx l j))) := by
      rw [ek]
      have hd := DOk.ints (k := 1601) (ns := (List.range l.length).map fun j => prL sh bx l j) (fun i hi => by
        obtain ⟨j, hj, rfl⟩ := List.mem_map.mp hi
        exact prL_size hs hb hW t2 (List.mem_range.mp hj)) (by decide) (by decide)
      rw [List.length_map, List.length_range] at hd
      exact repOk_of (h := 1) (n := 14439) (by show dats _ = true; rw [dats_ints]) (by show DOk 1 14439 (.list (toPys _)); rw [toPys_ints]; exact hd.mono (Nat.le_refl _) (by omega)) (by decide) (by decide)
    refine ploop_m (fun i ρ' c' => ∃ y6 y7 : Option Sl, ρ' = [some (.val .brk), some (.val (dSh sh)), some (.val (.str (sg l))), some (.val (dBox bx)), some (.val (.lst ((List.range l.length).map fun j => .int (prL sh bx l j)))), some (.val (dW l sh.length)), y6, y7, none, none, none, none, none, none] ∧ c' = c2) ⟨none, none, rfl, rfl⟩ ?_ ?_
    · rintro i k ρ' c' hk ⟨y6, y7, rfl, rfl⟩
      walk_at "pl"
      unfold pCalO
      walk_at "pl"
      refine ⟨noLs_two _ _ _, sh, bx, l, rfl, hs, hb, hW, t2, _, rfl, by rw [ek]; exact noLs_ints _, rok, rok, if_f (ne_no rfl) ⟨by rw [List.length_map, List.length_range]; omega, rfl⟩⟩
    · rintro ρ' c' ⟨y6, y7, rfl, rfl⟩
      walk_at "pl"
      unfold pCalO
      walk_at "pl"
      have en : ((cellsBx bx).length : Int) - ((List.range l.length).map fun j => prL sh bx l j).sum = nR sh bx l := by rw [cells_prod hb]; rfl
      refine ⟨sh, bx, rfl, hs, h9, hb, (cellsBx bx).length, by rw [lenD_lst, List.length_map], _, ek, sh, bx, l, rfl, hs, hb, hW, t2, rfl, if_f (ne_no (show V.int _ = dV (D.int _) from congrArg V.int en)) ⟨l, sh, rfl, by omega, hs, h9, by omega, fun more t c3 n0 n1 x1 x2 x3 x4 x5 => ?_⟩⟩
      have W : Wdr sh more t := ⟨x1, x2, x3, x4, x5⟩
      have hW2 := W.wk hW t2
      have hs2 := W.shp hs
      have hb2 := W.box hs hb
      have hW3 : WK.WOk (l ++ t) (wideS sh more).length := by rw [wideS_len]; exact hW2
      have hl2 : cnts (l ++ t) (wideS sh more).length = wideS sh more := by rw [wideS_len]; exact W.c t2
      refine ⟨_, rfl, rfl, _, _, rfl, _, _, rfl, _, _, rfl, rfl, weave_q hW2 ⟨bx, more, rfl, by rw [hb.len]; exact x1, by rw [hb.len]; exact hs.n4, fun k hk => ?_, noLs_two _ _ _, wideS sh more, wideB bx more, l ++ t, by rw [wideS_len], hs2, hb2, hW3, hl2, _, rfl, ?_⟩⟩
      · have h1 := x2 k (by rw [← hb.len]; exact hk)
        have h2 := hs.at (k := k) (by rw [← hb.len]; exact hk)
        have h3 := hb.lo k (by rw [← hb.len]; exact hk)
        have h4 := hb.le k (by rw [← hb.len]; exact hk)
        have h5 := hb.hi k (by rw [← hb.len]; exact hk)
        exact ⟨h1.1, by omega, h3, h4, lt_pow h5 (by omega)⟩
      · refine ⟨noLs_map fun _ _ => rfl, ?_⟩
        have e0 : (List.range (l ++ t).length).map (fun j => D.int (prL (wideS sh more) (wideB bx more) (l ++ t) j)) = ((List.range l.length).map fun j => D.int (prL sh bx l j)) ++ (List.range t.length).map fun e => D.int (((cellsBx bx).length : Int) * 2 ^ e) := by
          rw [List.length_append, List.range_add, List.map_append, List.map_map]
          congr 1
          · exact List.map_congr_left fun j hj => by rw [W.ahead hs hW t2 hb (List.mem_range.mp hj)]
          · exact List.map_congr_left fun e he => by
              show D.int (prL _ _ _ (l.length + e)) = _
              rw [W.behind hs hW t2 hb (List.mem_range.mp he), cells_prod hb]
        have hsz : ∀ e, e < t.length → (((cellsBx bx).length : Int) * 2 ^ e).natAbs < 2 ^ 1601 := fun e he => by
          rw [cells_prod hb, ← W.behind hs hW t2 hb he]
          exact prL_size hs2 hb2 hW3 hl2 (by rw [List.length_append]; omega)
        have cm : cmpOk (.lst ((List.range l.length).map fun j => D.int (prL sh bx l j))) := by rw [ek]; exact cmp_ints _
        have ee : WP.eqD (.lst ((List.range l.length).map fun j => D.int (prL sh bx l j))) (.lst ((List.range l.length).map fun j => D.int (prL sh bx l j))) = true := by
          rw [ek]
          exact eqD_refl (h := 1) (by show LOk 1 (.list (toPys _)); rw [toPys_ints]; exact LOk.ints)
        rw [e0, cut_to, cut_from, List.take_left' (by rw [List.length_map, List.length_range]), List.drop_left' (by rw [List.length_map, List.length_range])]
        refine ⟨by omega, cm, cm, if_f (by rw [ee]; rfl) ⟨(l ++ t).length, by rw [lenD_str, sg_len]; exact ⟨Nat.le_trans hW2.le (by decide), rfl⟩, if_f (ne_no (by rw [List.length_append, List.length_map, List.length_range, List.length_map, List.length_range, List.length_append])) ⟨by omega, ?_⟩⟩⟩
        refine ploop_m (f := fun e : Nat => D.int (((cellsBx bx).length : Int) * 2 ^ e)) (fun i ρ' c9 => ∃ y13 : Option Sl, ρ' = [some (Sl.val D.brk), some (Sl.val (D.tup (List.map D.int sh))), some (Sl.val (D.str (sg l))), some (Sl.val (D.tup (List.map dPr bx))), some (Sl.val (D.lst (List.map (fun j => D.int (prL sh bx l j)) (List.range l.length)))), some (Sl.val (dW l sh.length)), y6, some (Sl.own (((List.range l.length).map fun j => D.int (prL sh bx l j)) ++ (List.range t.length).map fun e => D.int (((cellsBx bx).length : Int) * 2 ^ e))), some (Sl.val (D.int ↑(cellsBx bx).length)), some (Sl.val (dSh (wideS sh more))), some (Sl.val (D.lst (List.map D.int more))), some (Sl.val (D.str (sg (l ++ t)))), some (Sl.val (D.int (((cellsBx bx).length : Int) * 2 ^ i))), y13] ∧ c9 = c3) ⟨none, by rw [Int.pow_zero, Int.mul_one], rfl⟩ ?_ ?_
        · rintro i e ρ' c' hk ⟨y13, rfl, rfl⟩
          obtain ⟨hkl, ek⟩ := mem_rng hk
          subst ek
          walk_at "pl"
          refine ⟨mulx_ok (a := 2) (b := 1601) (by decide) (hsz e hkl) (by decide), ?_⟩
          rw [Int.pow_succ, Int.mul_comm 2, Int.mul_assoc]
        · rintro ρ' c' ⟨y13, rfl, rfl⟩
          walk_at "pl"
          exact q _ (by omega) (by omega)⟩

end
section
open WQ WM
variable {P : Program} {w : World} {K : PySem.W.Frag} {mg : Str → Option Value} {base : Heap}
def sp_law (K : PySem.W.Frag) : Sp := fun vs H Q _ => ∃ (a : Addr) (ns : List Int), vs = [.ref a] ∧ SqL K H a (ns.map V.int) ∧ ns.length ≤ 63 ∧ ∀ H', Q (.bl true) H'
def sq_law : PSp := fun ds c Q => ∃ ns : List Int, ds = [.slst ns] ∧ ns.length ≤ 63 ∧ c.n = 0 ∧ ∀ c', Q (.bl true) c'

theorem cut_init {xs : List D} (h : 1 ≤ xs.length) : cutP xs none (some (-1)) = xs.dropLast := by
  unfold cutP
  rw [HT.sIx_none]
  have e : HT.sIx xs.length xs.length (some (-1)) = xs.length - 1 := by
    show (if (-1 : Int) < 0 then ((-1 : Int) + (xs.length : Int)).toNat else min (-1 : Int).toNat xs.length) = xs.length - 1
    rw [if_pos (by decide)]
    omega
  rw [e, List.drop_zero, Nat.sub_zero, List.dropLast_eq_take]
theorem fn_law (T : Txt K mg) {fd : FuncData} (F : FunD K "law" "law" (defArgs s_law) (defBody s_law) (defScope s_law) [] [] (He.ga K "law") fd) : GFn P w K mg base CX0 18 (He.ga K "law") fd ["_law_script"] (sp_law K) :=
  gfn_of0 F sc_law (by rintro vs H Q E ⟨_, _, rfl, _⟩; rfl) (fun cdv A outer s H vs Q E hr gd h => by
    obtain ⟨a, ns, rfl, hS, hl, q⟩ := h
    refine ⟨_, (pss_cons (ps_for PassesOwn.never rfl (pi_range1 (by rfl) T.n_range (pa_cons (pe_callB max2 (by rfl) T.n_max (by decide +kernel) (pa_cons pe_int (pa_cons (pe_callB min2 (by rfl) T.n_min (by decide +kernel) (pa_cons pe_int (pa_cons (pe_callB (lenU K) (by rfl) T.n_len (by decide +kernel) (pa_cons (pv 0) pa_nil)) pa_nil))) pa_nil))) pa_nil)) (pg_name (i := 1) sc_law.nd rfl (.inl rfl)) (pss_cons (ps_set (i := 2) sc_law.nd rfl (.inl rfl) (cal (Q__law_bowl (K := K) T) hr (pa_cons (pv 0) (pa_cons (pv 1) pa_nil))))
    (pss_cons (ps_for PassesOwn.never rfl (pi_range1 (by rfl) T.n_range (pa_cons pe_int pa_nil)) (pg_name (i := 3) sc_law.nd rfl (.inl rfl)) (pss_one (ps_if (pt_not (pt_val (cal (Q__law_great_right (K := K) T) hr (pa_cons (pv 2) pa_nil)))) (pss_one (ps_ret pe_bl)) pss_nil)))
    (pss_one (ps_for PassesOwn.never rfl (pi_range1 (by rfl) T.n_range (pa_cons pe_int pa_nil)) (pg_name (i := 3) sc_law.nd rfl (.inl rfl)) (pss_cons (ps_set (i := 4) sc_law.nd rfl (.inl rfl) (cal (Q__law_sizes (K := K) T) hr (pa_cons (pv 2) (pa_cons pe_int (pa_cons (pe_ix (ixL K) (pe_lst (pa_cons pe_int (pa_cons pe_int (pa_cons pe_int pa_nil)))) (cal (Q__law_pick (K := K) T) hr (pa_cons (pv 2) (pa_cons pe_int pa_nil))) (fun _ _ => rfl)) pa_nil)))))
    (pss_cons (ps_while PassesOwn.never (pt_cmpR op_gt (pe_callB (sumT K) (by rfl) T.n_sum (by decide +kernel) (pa_cons (pv 4) pa_nil)) pe_int (nomark _)) (pss_one (ps_set (i := 4) sc_law.nd rfl (.inl rfl) (pe_slice (slAK K) (pv 4) po_none (po_some (pe_un un_neg pe_int))))))
    (pss_one (ps_if (pt_not (pt_val (calG (Q__law_right (K := K) T) hr gd (pa_cons (pv 2) (pa_cons (pv 4) pa_nil))))) (pss_one (ps_ret pe_bl)) pss_nil)))))))))
    (pss_one (ps_ret (pe_cmpR (eqD K hr) (cal (Q_step_pairs (K := K) T) hr (pa_cons (mkO (O_Weave___init__ (K := K) T) T.m_Weave T.g_Weave hr (pa_cons pe_str pa_nil)) (pa_cons (pe_tup (pa_cons (pe_tup (pa_cons pe_int (pa_cons pe_int pa_nil))) (pa_cons (pe_tup (pa_cons pe_int (pa_cons pe_int pa_nil))) pa_nil))) pa_nil))) (pe_lst (pa_cons pe_int (pa_cons pe_int (pa_cons pe_int (pa_cons pe_int pa_nil))))) (nomark _))))), body_ok (E := E) inferInstance (n := 1) (psp := sq_law) ?_ (law_start (E := E) hS q ⟨ns, rfl, hl, rfl, fun _ => rfl⟩)⟩
    clear hl q hS
    rintro ds c Q _ ⟨ns, rfl, hl, hc, q⟩
    walk_at "pl"
    have p49 : (2 : Nat) ^ 49 = 562949953421312 := by decide
    have p50 : (2 : Nat) ^ 50 = 1125899906842624 := by decide
    have p57 : (2 : Nat) ^ 57 = 144115188075855872 := by decide
    have p58 : (2 : Nat) ^ 58 = 288230376151711744 := by decide
    have p59 : (2 : Nat) ^ 59 = 576460752303423488 := by decide
    refine ⟨?_, ?_, ?_⟩
    · split <;> split <;> omega
    · split <;> split <;> omega
    have g5 : ∃ g : Nat, g ≤ 6 ∧ (if (if (ns.length : Int) < 6 then (ns.length : Int) else 6) > 1 then if (ns.length : Int) < 6 then (ns.length : Int) else 6 else 1).toNat = g := ⟨_, by split <;> split <;> omega, rfl⟩
    obtain ⟨g, hg, eg⟩ := g5
    rw [eg]
    clear eg
    refine ploop_r0 (fun i ρ' c' => ∃ z1 z2 z3 z4, ρ' = [some (.val (.slst ns)), z1, z2, z3, z4] ∧ c'.n ≤ 200000 * i) ⟨_, _, _, _, rfl, by omega⟩ ?_ ?_
    · rintro i ρ' c1 hi ⟨z1, z2, z3, z4, rfl, hcn⟩
      walk_at "pl"
      refine ⟨ns, i, rfl, hl, by omega, by omega, ?_⟩
      refine ⟨by decide, by decide, ?_⟩
      refine ploop_r0 (n := 2) (fun j ρ' c' => ∃ z, ρ' = [some (.val (.slst ns)), some (.val (.int (i : Int))), some (.val .brk), z, z4] ∧ c'.n ≤ 200000 * i + 20000 * j) ⟨_, rfl, by omega⟩ ?_ ?_
      · rintro j ρ' c2 hj ⟨z, rfl, hcj⟩
        walk_at "pl"
        exact ⟨rfl, by omega, fun c3 h3 h4 => ⟨true, rfl, if_f rfl (by omega)⟩⟩
      · rintro ρ' c2 ⟨z, rfl, hcj⟩
        have hcj : c2.n ≤ 200000 * i + 20000 * 2 := hcj
        walk_at "pl"
        refine ⟨by decide, by decide, ?_⟩
        refine ploop_r0 (n := 4) (fun j ρ' c' => ∃ z z4, ρ' = [some (.val (.slst ns)), some (.val (.int (i : Int))), some (.val .brk), z, z4] ∧ c'.n ≤ 200000 * i + 40000 + 30000 * j) ⟨_, _, rfl, by omega⟩ ?_ ?_
        · rintro j ρ' c3 hj ⟨z, z4, rfl, hcj2⟩
          walk_at "pl"
          have main : ∀ b : Int, 1 ≤ b → b ≤ 9 → ∀ c4 : Om, c3.n ≤ c4.n → c4.n ≤ c3.n + 20 → sq__law_sizes [D.brk, D.int 4, D.int b] c4 fun d c1 => PWhile (pTest (pOp (pII0 fun i j => D.bl (decide (j < i))) (pCB pSumT (pCons (pVarB 4) pNil)) (pC (D.int 9)))) (pSet 4 (pVal (pSl pSlA (pVarB 4) pNoPart (pPart (pUn (pU Neg.neg) (pC (D.int 1))))))) { nx := fun ρ' c' => ∃ d, ρ'[2]? = some (some (Sl.val d)) ∧ ∃ d_1, ρ'[4]? = some (some (Sl.val d_1)) ∧ sq__law_right [d, d_1] c' fun d c1 => ∃ b, d = D.bl b ∧ if (!b) = true then Q (D.bl false) c1 else ∃ z z4, ρ' = [some (Sl.val (D.slst ns)), some (Sl.val (D.int ↑i)), some (Sl.val D.brk), z, z4] ∧ c1.n ≤ 200000 * i + 40000 + 30000 * (j + 1), rt := Q, bk := fun ρ' c' => ∃ z1 z2 z3 z4, ρ' = [some (Sl.val (D.slst ns)), z1, z2, z3, z4] ∧ c'.n ≤ 200000 * (i + 1), ct := fun ρ' c' => ∃ z z4, ρ' = [some (Sl.val (D.slst ns)), some (Sl.val (D.int ↑i)), some (Sl.val D.brk), z, z4] ∧ c'.n ≤ 200000 * i + 40000 + 30000 * (j + 1) } [some (Sl.val (D.slst ns)), some (Sl.val (D.int ↑i)), some (Sl.val D.brk), some (Sl.val (D.int ↑j)), some (Sl.val d)] c1 := fun b b1 b9 c4 k0 k1 => by
            refine ⟨4, b, rfl, by omega, by decide, by decide, b1, by omega, fun s c5 k2 k3 s1 s4 sb => ?_⟩
            refine ⟨fun m ρ c6 => ∃ s : List Int, ρ = [some (Sl.val (D.slst ns)), some (Sl.val (D.int ↑i)), some (Sl.val D.brk), some (Sl.val (D.int ↑j)), some (.val (dSh s))] ∧ c6 = c5 ∧ 1 ≤ s.length ∧ s.length ≤ 4 ∧ (∀ x ∈ s, 1 ≤ x ∧ x ≤ 9) ∧ m = s.length, ⟨_, s, rfl, rfl, s1, by omega, (fun x hx => by have := sb x hx; omega), rfl⟩, ?_⟩
            rintro m ρ c6 ⟨s, rfl, rfl, s1, s4, sb, rfl⟩
            walk_at "pl"
            refine ⟨s, rfl, if_d (fun e => ?_) fun e => ?_⟩
            · have h2 : 2 ≤ s.length := by
                rcases s with _ | ⟨x, _ | ⟨y, s⟩⟩
                · exact absurd s1 (by decide)
                · have := (sb x List.mem_cons_self).2
                  rw [List.sum_cons, List.sum_nil] at e
                  omega
                · show 2 ≤ s.length + 1 + 1
                  omega
              refine ⟨s.length - 1, by omega, s.dropLast, ?_, by rw [List.length_dropLast]; omega, by rw [List.length_dropLast]; omega, fun x hx => sb x (List.dropLast_subset _ hx), by rw [List.length_dropLast]⟩
              rw [cut_init (by rw [List.length_map]; exact s1), List.map_dropLast]
            · exact ⟨s, rfl, by omega, ⟨s1, s4, fun x hx => by have := sb x hx; omega, by omega⟩, by omega, fun c7 k4 k5 => ⟨true, rfl, if_f rfl (by omega)⟩⟩
          refine ⟨3, rfl, by omega, by decide, by decide, fun r r0 r1 => ?_⟩
          rcases (show r = 0 ∨ r = 1 ∨ r = 2 by omega) with rfl | rfl | rfl
          · exact ⟨_, rfl, _, at_nat (j := 0) rfl rfl, main 9 (by decide) (by decide) _ (by rw [Om.add_n]; omega) (by rw [Om.add_n]; omega)⟩
          · exact ⟨_, rfl, _, at_nat (j := 1) rfl rfl, main 4 (by decide) (by decide) _ (by rw [Om.add_n]; omega) (by rw [Om.add_n]; omega)⟩
          · exact ⟨_, rfl, _, at_nat (j := 2) rfl rfl, main 2 (by decide) (by decide) _ (by rw [Om.add_n]; omega) (by rw [Om.add_n]; omega)⟩
        · rintro ρ' c3 ⟨z, z4, rfl, hcj2⟩
          have hcj2 : c3.n ≤ 200000 * i + 40000 + 30000 * 4 := hcj2
          walk_at "pl"
          omega
    · rintro ρ' c1 ⟨z1, z2, z3, z4, rfl, hcn⟩
      walk_at "pl"
      have hW : WK.WOk [97, 97, 98, 98] 2 := ⟨by decide, by decide, by decide, by decide, fun k h1 h2 => by
        rcases (show k = 2 ∨ k = 3 by omega) with rfl | rfl <;> rfl, by decide, by decide⟩
      have hs : ShOk [2, 2] := ⟨by decide, by decide, by decide, by decide⟩
      have hb : BoxSh [2, 2] [(1, 2), (1, 2)] := ⟨rfl, by decide, by decide, by decide⟩
      refine weave_q hW ⟨[2, 2], [(1, 2), (1, 2)], [97, 97, 98, 98], rfl, hs, hb, hW, by decide, ?_⟩
      have v : (List.range [97, 97, 98, 98].length).map (fun j => D.int (prL [2, 2] [(1, 2), (1, 2)] [97, 97, 98, 98] j)) = [0, 0, 2, 0].map D.int := by
        have v0 : (List.range 4).map (fun j => prL [2, 2] [(1, 2), (1, 2)] [97, 97, 98, 98] j) = [0, 0, 2, 0] := by decide +kernel
        rw [← v0, List.map_map]
        rfl
      rw [v]
      refine ⟨cmp_ints _, cmp_ints [0, 0, 2, 0], ?_⟩
      rw [show [D.int 0, D.int 0, D.int 2, D.int 0] = [(0 : Int), 0, 2, 0].map D.int from rfl, eqD_refl (h := 1) (by rw [toPy, toPys_ints]; exact LOk.ints)]
      exact q _)

end
theorem txt {K : PySem.W.Frag} {h : Heap} {mg : Str → Option Value} (X : K.In h) (G : h.Ns mainGlobals mg) (c : SaysA fal exl fnl K) : Txt K mg where
  n_all := He.free_ok X G (c.fact 0)
  n_bool := He.free_ok X G (c.fact 1)
  n_enumerate := He.free_ok X G (c.fact 2)
  n_int := He.free_ok X G (c.fact 3)
  n_isinstance := He.free_ok X G (c.fact 4)
  n_len := He.free_ok X G (c.fact 5)
  n_list := He.free_ok X G (c.fact 6)
  n_max := He.free_ok X G (c.fact 7)
  n_min := He.free_ok X G (c.fact 8)
  n_range := He.free_ok X G (c.fact 9)
  n_repr := He.free_ok X G (c.fact 10)
  n_sorted := He.free_ok X G (c.fact 11)
  n_str := He.free_ok X G (c.fact 12)
  n_sum := He.free_ok X G (c.fact 13)
  n_tuple := He.free_ok X G (c.fact 14)
  n_zip := He.free_ok X G (c.fact 15)
  c_AXES := He.str_ok X G (c.fact 16)
  c_MOST_BITS := He.int_ok X G (c.fact 17)
  c_MOST_LETTERS := He.int_ok X G (c.fact 18)
  c_DIGITS := He.str_ok X G (c.fact 19)
  c_MOST_OPEN := He.int_ok X G (c.fact 20)
  c_MOST_TIMES := He.int_ok X G (c.fact 21)
  g_Weave := He.glo_ok X G (c.fact 22)
  k_Weave := He.cls_ok (c.fact 23)
  m_Weave := He.mkr_ok (c.fact 24)
  i_Weave := isB_ok (c.own 0)
  a_Weave_own_letters := He.noat_ok (c.fact 25)
  a_Weave_own_shape := He.noat_ok (c.fact 26)
  g_blocks_in := He.glo_ok X G (c.fact 27)
  g_middles_in := He.glo_ok X G (c.fact 28)
  g_is_int := He.glo_ok X G (c.fact 29)
  g_is_stretch := He.glo_ok X G (c.fact 30)
  g_is_box_of := He.glo_ok X G (c.fact 31)
  g_require_box := He.glo_ok X G (c.fact 32)
  g_read_times := He.glo_ok X G (c.fact 33)
  g_read_parts := He.glo_ok X G (c.fact 34)
  g_count_letter := He.glo_ok X G (c.fact 35)
  g_written := He.glo_ok X G (c.fact 36)
  g_read_weave := He.glo_ok X G (c.fact 37)
  p_Weave_letters := propB_ok (c.own 1)
  p_Weave_shape := propB_ok (c.own 2)
  g_require_weave := He.glo_ok X G (c.fact 38)
  g_axes_of := He.glo_ok X G (c.fact 39)
  g_pairs_at := He.glo_ok X G (c.fact 40)
  g_pairs_of := He.glo_ok X G (c.fact 41)
  g_cells_of := He.glo_ok X G (c.fact 42)
  g_number_of_ranges := He.glo_ok X G (c.fact 43)
  g_count_ranges := He.glo_ok X G (c.fact 44)
  g_step_pairs := He.glo_ok X G (c.fact 45)
  g__law_bowl := He.glo_ok X G (c.fact 46)
  g__law_pick := He.glo_ok X G (c.fact 47)
  g__law_word := He.glo_ok X G (c.fact 48)
  g__law_key := He.glo_ok X G (c.fact 49)
  g__law_cells := He.glo_ok X G (c.fact 50)
  g__law_sizes := He.glo_ok X G (c.fact 51)
  g__law_stretch := He.glo_ok X G (c.fact 52)
  g__law_box := He.glo_ok X G (c.fact 53)
  g__law_wide := He.glo_ok X G (c.fact 54)
  g__law_wider := He.glo_ok X G (c.fact 55)
  g__law_pairs := He.glo_ok X G (c.fact 56)
  g__law_right := He.glo_ok X G (c.fact 57)
  g__law_step := He.glo_ok X G (c.fact 58)
  g__law_great_right := He.glo_ok X G (c.fact 59)
  g_law := He.glo_ok X G (c.fact 60)
  f_blocks_in := c.df 0
  f_middles_in := c.df 1
  f_is_int := c.df 2
  f_is_stretch := c.df 3
  f_is_box_of := c.df 4
  f_require_box := c.df 5
  f_read_times := c.df 6
  f_read_parts := c.df 7
  f_count_letter := c.df 8
  f_written := c.df 9
  f_read_weave := c.df 10
  f_Weave___init__ := c.df 11
  f_Weave_letters := c.df 12
  f_Weave_shape := c.df 13
  f_require_weave := c.df 14
  f_axes_of := c.df 15
  f_pairs_at := c.df 16
  f_pairs_of := c.df 17
  f_cells_of := c.df 18
  f_number_of_ranges := c.df 19
  f_count_ranges := c.df 20
  f_step_pairs := c.df 21
  f__law_bowl := c.df 22
  f__law_pick := c.df 23
  f__law_word := c.df 24
  f__law_key := c.df 25
  f__law_cells := c.df 26
  f__law_sizes := c.df 27
  f__law_stretch := c.df 28
  f__law_box := c.df 29
  f__law_wide := c.df 30
  f__law_wider := c.df 31
  f__law_pairs := c.df 32
  f__law_right := c.df 33
  f__law_step := c.df 34
  f__law_great_right := c.df 35
  f_law := c.df 36
theorem law_at {P : Program} {w : World} {K : PySem.W.Frag} {h : Heap} {mg : Str → Option Value} {f : Addr} (X : K.In h) (G : h.Ns mainGlobals mg) (hfa : mg ("law" : Str) = some (.ref f)) (c : SaysA fal exl fnl K) :
    ∃ fd : FuncData, (∀ (s : Shared) (v : Value), BindsTo s fd ⟨[v], []⟩ [("_law_script", v)]) ∧ ∀ base : Heap, K.In base → base.Ns mainGlobals mg → GFn P w K mg base CX0 18 f fd ["_law_script"] (sp_law K) := by
  have T := txt X G c
  obtain ⟨fd, F⟩ := T.f_law
  have e := hfa.symm.trans T.g_law
  cases e
  have b := FunD.bindsA (ps := ["_law_script"]) F fun _ _ _ _ _ _ us hl => match us, hl with | [_], _ => rfl
  exact ⟨fd, fun s v => b s [v] rfl, fun base _ _ => fn_law T F⟩
end K15
open PySem PySem.W PySem.Calls PyProof.Rows
set_option maxHeartbeats 0 in
theorem PySem.Challenge.cw_wovenkeys_k15_pairs_at_each_step_holds : PySem.Challenge.rw_wovenkeys_k15_pairs_at_each_step.Holds := by
  w_on; o_law
  refine HandSHeadRun.head_any (r := OpenLaw.row PySem.Challenge.rw_wovenkeys_k15_pairs_at_each_step) (q := view (OpenLaw.row PySem.Challenge.rw_wovenkeys_k15_pairs_at_each_step).prog [53]) (H := K15.hk) (ob := K15.ob) (M := 6000) (loose := K15.nms) (d := HandSHeadRun.topDef (OpenLaw.row PySem.Challenge.rw_wovenkeys_k15_pairs_at_each_step).prog 53) (kwd := []) K15.ob_eq
    (by kernel_rfl) (fun s => by kernel_rfl) K15.run (by kernel_rfl) (by kernel_rfl) (by kernel_rfl) (by rfl) (by first | assumption | decide +kernel) (by decide +kernel) ⟨rfl, rfl, rfl, rfl, rfl, by decide +kernel⟩ ?hw ?hc
  case hw => w_witness2
  case hc =>
    refine WK.walkG (l := PySem.Challenge.rw_wovenkeys_k15_pairs_at_each_step) (n := 63) (k := 18) (x := "_law_script") rfl (by decide) (by kernel_rfl) ⟨rfl, by decide, by decide⟩ ?F
    intro w mg fa h Y G hmg0
    obtain ⟨K, KX, c⟩ := Y
    have hmg : mg ("law" : PySem.Str) = some (.ref fa) := by
      have e : (HandSHeadRun.topDef (OpenLaw.row PySem.Challenge.rw_wovenkeys_k15_pairs_at_each_step).prog 53).name = ("law" : PySem.Str) := by kernel_rfl
      rw [← e]
      exact hmg0
    obtain ⟨fd, hb, hF⟩ := K15.law_at (P := (PySem.Challenge.rw_wovenkeys_k15_pairs_at_each_step).prog) (w := w) KX G hmg c
    exact ⟨K, fd, K15.sp_law K, KX, hb, fun H a ns hl _ hS => ⟨a, ns, rfl, hS, hl, fun _ => rfl⟩, hF⟩
