import PyProof.Rows.All
import Wide.All
import OpenK.AllK
import Wide.FinOn
import KE.KStateDown
import KE.GoesEnum
import Lean
import HandS.Base
import HandS.Call
import HandS.List
import HandS.Comp
import HandS.Ends
import HandS.Dict
import HandS.Iter
import HandS.Text
import HandS.More
import HandS.Exc
import HandS.ExcOwn
import HandS.TryOnly
import HandS.TryMany
import HandS.IsInst
import HandS.Words
import HandS.WordsList
import HandS.WordsExc
import HandS.Wide
import HandS.WideBits
import HandS.Defaults
import HandS.Head0
import HandS.Head1
import HandS.Head2
import HandS.HeadEnd
import HandS.HeadHook1
import HandS.HeadHook2
import HandS.RaiseMore
import HandS.TupAny
import HandS.Style
import HandS.Property
import HandS.Conv
import HandS.Walk
import HandS.Replace
import HandS.SortInts
import HandS.TupMul
import HandS.Zip
import PySem.Challenge.RW_wovenkeys_k20_ranks_and_nth_keys
set_option Elab.async false
set_option linter.all false
set_option maxRecDepth 100000
set_option maxHeartbeats 4000000
/-! ## Part 1: rules in short form, over the hand layer -/
namespace WK
open PySem PySem.Spec PyProof.Rows L2

/-! ### a def of the text that keeps a promise, found by its name -/
structure Ok (P : Program) (w : World) (K : PySem.W.Frag) (mg : Str → Option Value) (base : Heap) (C : CXT) (k : Nat) (x : Str) (ps : List Str) (sp : Sp) : Prop where
  ex : ∃ fd, FnOk P w K mg base C k (He.ga K x) fd ps sp ∧ Binds K fd ps []
  kp : PySem.W.keepIn K (.ref (He.ga K x)) = true
  at_ : mg x = some (.ref (He.ga K x))
def tCal (sp : Sp) (E : XK) (t : TA) : TE := fun σ H Q => t σ H fun vs H1 => sp vs H1 Q E
section
variable {X : Cx} {C : CXT} {k j : Nat} {ps : List Str} {sp : Sp} {E : XK} {x : Str} {p pos : Pos} {e : Expr} {es : List Expr} {t : TA}
theorem tCal_eq : tCall sp [] E t = tCal sp E t := by
  funext σ H Q
  show (t σ H fun vs H1 => sp (vs ++ []) H1 Q E) = t σ H fun vs H1 => sp vs H1 Q E
  congr 1
  funext vs H1
  rw [List.append_nil]
theorem calX (O : Ok X.prog X.w X.K X.mg X.base C k x ps sp) (hr : Room j X.A) (hx : Passes C X E) (ha : PA X (e :: es) t) (hj : k ≤ j := by first | decide | omega) (hg : Gl X x := by rfl) (hdb : (x == ("__debug__" : Str)) = false := by decide)
    (he : starEach (e :: es) X.env = (false, eval e X.env) :: starEach es X.env := by rfl) (hpl : (backTo pos (starEach es X.env)).any (·.1) = false := by rfl) : PE X (.Call (.Name x p) (e :: es) [] pos) (tCal sp E t) := by
  obtain ⟨fd, F, B⟩ := O.ex
  rw [← tCal_eq]
  exact pe_call F (hr.mono hj) hg O.at_ O.kp B .nil hx ha hdb he hpl
theorem cal (O : Ok X.prog X.w X.K X.mg X.base CX0 k x ps sp) (hr : Room j X.A) (ha : PA X (e :: es) t) (hj : k ≤ j := by first | decide | omega) (hg : Gl X x := by rfl) (hdb : (x == ("__debug__" : Str)) = false := by decide)
    (he : starEach (e :: es) X.env = (false, eval e X.env) :: starEach es X.env := by rfl) (hpl : (backTo pos (starEach es X.env)).any (·.1) = false := by rfl) : PE X (.Call (.Name x p) (e :: es) [] pos) (tCal sp E0 t) :=
  calX O hr pass0 ha hj hg hdb he hpl
theorem cal0 (O : Ok X.prog X.w X.K X.mg X.base CX0 k x ps sp) (hr : Room j X.A) (hj : k ≤ j := by first | decide | omega) (hg : Gl X x := by rfl) (hdb : (x == ("__debug__" : Str)) = false := by decide) : PE X (.Call (.Name x p) [] [] pos) (tCal sp E0 tNil) := by
  obtain ⟨fd, F, B⟩ := O.ex
  rw [← tCal_eq]
  exact pe_call0 F (hr.mono hj) hg O.at_ O.kp B .nil pass0 hdb
end
/-- a def keeps a promise: by its body -/
theorem Ok.mk' {P : Program} {w : World} {K : PySem.W.Frag} {mg : Str → Option Value} {base : Heap} {C : CXT} {k : Nat} {x : Str} {N ps : List Str} {st : Stmt} {sp : Sp}
    (F : ∃ fd, FunD K x x (defArgs st) (defBody st) (defScope st) [] [] (He.ga K x) fd) (g : mg x = some (.ref (He.ga K x))) (S : FnScope N ps (defScope st)) (len : ∀ vs H Q E, sp vs H Q E → vs.length = ps.length)
    (hb : ∀ (kV doc pm : Value) (an : Option Addr) (cdv ct : Value) (us : List Value), us.length = ps.length → bindArgs (PySem.W.fnOf x x (defArgs st) (defBody st) (defScope st) .none kV doc pm an cdv ct) ⟨us, []⟩ = pure (ps.zip us))
    (hbody : ∀ (f : Addr) (cdv : Value) (A : Around) (outer : List Env) (s : Shared) (H : Hp) (vs : List V) (Q : VK) (E : XK), Room k (A.deeper (envOfC x (defScope st) s.heap.objs.size f cdv)) → sp vs H Q E →
      ∃ t, PSs (cxOf C P w K mg base N x (defScope st) f cdv A outer s H E) (defBody st) t ∧ t { nx := fun _ H' => Q .non H', rt := Q } (start N vs) H) : Ok P w K mg base C (k + 1) x ps sp := by
  obtain ⟨fd, F⟩ := F
  exact ⟨⟨fd, F.ok S len fun cdv A outer s H vs Q E => hbody _ cdv A outer s H vs Q E, F.bindsN hb⟩, F.kp, g⟩
/-- nothing leaves it -/
theorem Ok.mk0 {P : Program} {w : World} {K : PySem.W.Frag} {mg : Str → Option Value} {base : Heap} {k : Nat} {x : Str} {N ps : List Str} {st : Stmt} {sp : Sp}
    (F : ∃ fd, FunD K x x (defArgs st) (defBody st) (defScope st) [] [] (He.ga K x) fd) (g : mg x = some (.ref (He.ga K x))) (S : FnScope N ps (defScope st)) (len : ∀ vs H Q E, sp vs H Q E → vs.length = ps.length)
    (hb : ∀ (kV doc pm : Value) (an : Option Addr) (cdv ct : Value) (us : List Value), us.length = ps.length → bindArgs (PySem.W.fnOf x x (defArgs st) (defBody st) (defScope st) .none kV doc pm an cdv ct) ⟨us, []⟩ = pure (ps.zip us))
    (hbody : ∀ (f : Addr) (cdv : Value) (A : Around) (outer : List Env) (s : Shared) (H : Hp) (vs : List V) (Q : VK) (E : XK), Room k (A.deeper (envOfC x (defScope st) s.heap.objs.size f cdv)) → sp vs H Q E →
      ∃ t, PSs (cxOf CX0 P w K mg base N x (defScope st) f cdv A outer s H E).nox (defBody st) t ∧ t { nx := fun _ H' => Q .non H', rt := Q } (start N vs) H) : Ok P w K mg base CX0 (k + 1) x ps sp :=
  Ok.mk' F g S len hb fun f cdv A outer s H vs Q E hr h => by
    obtain ⟨t, h1, h2⟩ := hbody f cdv A outer s H vs Q E hr h
    exact ⟨t, h1.nox, h2⟩

/-! ### rules with the written part told apart -/
section
variable {X : Cx}
theorem ixL (K : PySem.W.Frag) (h : X.K = K := by rfl) : IxR X (rIxL K) := by
  subst h
  exact ix_list
theorem ixT (K : PySem.W.Frag) (h : X.K = K := by rfl) : IxR X (rIxT K) := by
  subst h
  exact ix_tup
theorem piL (K : PySem.W.Frag) {tg l : Expr} {tl : TE} (hl : PE X l tl) (h : X.K = K := by rfl) : PI X tg l (iList K tl) := by
  subst h
  exact pi_list hl
theorem piT (K : PySem.W.Frag) {tg l : Expr} {tl : TE} (hl : PE X l tl) (h : X.K = K := by rfl) : PI X tg l (iTup K tl) := by
  subst h
  exact pi_tup hl
def rLenU (K : PySem.W.Frag) : List V → Hp → VK → Prop := fun xs H Q => ∃ x n, xs = [x] ∧ LenV K x H n ∧ Q (.int n) H
theorem lenU (K : PySem.W.Frag) (h : X.K = K := by rfl) : CallR X (.builtin "len") (rLenU K) := by
  subst h
  exact call_len
theorem sumL (K : PySem.W.Frag) (hc : X.calm = true := by rfl) (h : X.K = K := by rfl) : CallR X (.builtin "sum") (rSum K) := by
  subst h
  exact cr_sum hc
theorem maxL (K : PySem.W.Frag) (hc : X.calm = true := by rfl) (h : X.K = K := by rfl) : CallR X (.builtin "max") (rMax K) := by
  subst h
  exact cr_max hc
theorem allL (K : PySem.W.Frag) (hc : X.calm = true := by rfl) (h : X.K = K := by rfl) : CallR X (.builtin "all") (rAll K) := by
  subst h
  exact cr_all hc
theorem anyL (K : PySem.W.Frag) (hc : X.calm = true := by rfl) (h : X.K = K := by rfl) : CallR X (.builtin "any") (rAny K) := by
  subst h
  exact cr_any hc
theorem max2 (hc : X.calm = true := by rfl) : CallR X (.builtin "max") (fun xs H Q => ∃ i j, xs = [.int i, .int j] ∧ Q (.int (if j > i then j else i)) H) := call_max2 hc
theorem min2 (hc : X.calm = true := by rfl) : CallR X (.builtin "min") (fun xs H Q => ∃ i j, xs = [.int i, .int j] ∧ Q (.int (if j < i then j else i)) H) := call_min2 hc
theorem eqD (K : PySem.W.Frag) {j : Nat} (hr : Room j X.A) (h : X.K = K := by rfl) : OpR X (compareOp .Eq) (rEqD K) := by
  subst h
  exact op_eqD hr.units
theorem neD (K : PySem.W.Frag) {j : Nat} (hr : Room j X.A) (h : X.K = K := by rfl) : OpR X (compareOp .NotEq) (rNeD K) := by
  subst h
  exact op_neD hr.units
theorem isi (K : PySem.W.Frag) (h : X.K = K := by rfl) : CallR X (.builtin "isinstance") (rIsi K) := by
  subst h
  exact call_isi
theorem isiT (K : PySem.W.Frag) (h : X.K = K := by rfl) : CallR X (.builtin "isinstance") (rIsiT K) := by
  subst h
  exact call_isiT
/-- the class of a built-in kind, as a value -/
theorem tyInt (hm : X.mg "int" = none) (hg : Gl X "int" := by rfl) {pos : Pos} : PE X (.Name "int" pos) (tC (.ty "int")) := pe_bltn (u := .type "int") hg hm (by decide +kernel) rfl
end
/-! ### ints of any size -/
def CPowW (i j : Int) : Prop := 0 ≤ j ∧ (Builtin.Int.intBits i : Int) * j ≤ 2 ^ 27
section
variable {X : Cx}
theorem op_powW : OpR X (binaryOp .Pow) (rI CPowW fun i j => .int (i ^ j.toNat)) := opI fun _ _ _ _ _ _ _ hc q => pow_int hc.1 hc.2 q
/-- a written power -/
theorem pe_cpow {i j v : Int} {a b : Nat} {p q pos : Pos} (hv : i ^ j.toNat = v) (hj : 0 ≤ j ∧ j ≤ 1000000 := by decide) (hi : i.natAbs < 2 ^ 64 := by decide) : PE X (.BinOp (.Constant (.int i) a p) .Pow (.Constant (.int j) b q) pos) (tC (.int v)) := by
  subst hv
  have h := pe_op (X := X) (pos := pos) op_pow (pe_int (i := i) (j := a) (pos := p)) (pe_int (i := j) (j := b) (pos := q))
  exact ⟨fun pins s σ H Q I hq => h.run pins s σ H Q I ⟨i, j, rfl, rfl, ⟨hj.1, hj.2, hi⟩, hq⟩⟩
end
theorem powW_ok {i : Int} {n : Nat} {k : Nat} (h : i.natAbs < 2 ^ n) (hk : n * k ≤ 134217728) : CPowW i (k : Int) := by
  have b := PyProof.Rows.intBits_le h
  refine ⟨Int.natCast_nonneg _, ?_⟩
  have e : (2 : Int) ^ 27 = 134217728 := by decide
  rw [e]
  have h1 : Builtin.Int.intBits i * k ≤ n * k := Nat.mul_le_mul_right _ b
  have h2 : ((Builtin.Int.intBits i : Nat) : Int) * (k : Int) = ((Builtin.Int.intBits i * k : Nat) : Int) := (Int.natCast_mul _ _).symm
  rw [h2]
  omega
end WK
/-! ### the module's names, own errors -/
namespace WK
open PySem PySem.Spec PyProof.Rows L2
section
variable {X : Cx}
theorem pe_gint {x : Str} {i : Int} {pos : Pos} (h : ∃ t, X.mg x = some (.int i t)) (hg : Gl X x := by rfl) (hd : (x == ("__debug__" : Str)) = false := by decide) : PE X (.Name x pos) (tC (.int i)) := by
  obtain ⟨t, e⟩ := h
  exact pe_glob hg e ⟨t, rfl⟩ hd
theorem pe_gstr {x z : Str} {pos : Pos} (h : ∃ t, X.mg x = some (.str z t)) (hg : Gl X x := by rfl) (hd : (x == ("__debug__" : Str)) = false := by decide) : PE X (.Name x pos) (tC (.str z)) := by
  obtain ⟨t, e⟩ := h
  exact pe_glob hg e ⟨t, rfl⟩ hd
end
/-- an own error class over ValueError, without an own __init__ -/
structure Xc (K : PySem.W.Frag) (mg : Str → Option Value) (x : Str) : Prop where
  ex : PySem.W.excIn K (He.ga K x) He.veBase "ValueError.__new__" = true
  g : mg x = some (.ref (He.ga K x))
  kp : PySem.W.keepIn K (.ref (He.ga K x)) = true
  sub : PySem.W.subIn K (.ref (He.ga K x)) (.type "BaseException") = some true
  ty : PySem.W.typeIn K (.ref (He.ga K x)) = some (.type "type")
theorem Xc.of {K : PySem.W.Frag} {h : Heap} {mg : Str → Option Value} (X : K.In h) (G : h.Ns mainGlobals mg) {x : Str} (a : (He.Fa.glo x).ok K = true) (b : (He.Fa.exc x).ok K = true) : Xc K mg x := by
  obtain ⟨b1, b2, b3, b4⟩ := He.exc_ok b
  exact ⟨b1, He.glo_ok X G a, b2, b3, b4⟩
def tEx (C : Value) : L2.St → Hp → XK → Prop := fun _ H Q => Q C none H
theorem Xc.pmk {X : Cx} {K : PySem.W.Frag} {x m : Str} {j : Nat} {p p2 pos : Pos} (T : Xc K X.mg x) (hg : Gl X x) (hK : X.K = K := by rfl) (hdb : (x == ("__debug__" : Str)) = false := by decide) :
    PMk X (.Call (.Name x p) [.Constant (.str m) j p2] [] pos) (tEx (.ref (He.ga K x))) := by
  subst hK
  exact pmk_own PySem.F.excBase_ValueError T.ex T.g T.kp (raises_own T.sub T.ty) hg hdb
/-- a test that is true leaves what it leaves, a false one goes on -/
theorem if_t {c : Bool} {A B : Prop} (h : c = true) (a : A) : if c = true then A else B := by
  rw [if_pos h]
  exact a
theorem if_f {c : Bool} {A B : Prop} (h : c = false) (b : B) : if c = true then A else B := by
  rw [h, if_neg Bool.false_ne_true]
  exact b
theorem if_c {c : Bool} {A B : Prop} (a : c = true → A) (b : c = false → B) : if c = true then A else B := by
  cases c with
  | true => exact if_t rfl (a rfl)
  | false => exact if_f rfl (b rfl)
/-- by a proposition -/
theorem if_d {p : Prop} [Decidable p] {A B : Prop} (a : p → A) (b : ¬ p → B) : if decide p = true then A else B := by
  by_cases h : p
  · exact if_t (decide_eq_true h) (a h)
  · exact if_f (decide_eq_false h) (b h)
theorem if_nd {p : Prop} [Decidable p] {A B : Prop} (a : ¬ p → A) (b : p → B) : if (!decide p) = true then A else B := by
  by_cases h : p
  · exact if_f (by rw [decide_eq_true h]; rfl) (b h)
  · exact if_t (by rw [decide_eq_false h]; rfl) (a h)
end WK

namespace WK
open PySem PySem.Spec PyProof.Rows L2
/-! ### int() of an int, of a truth -/
def rIntI : List V → Hp → VK → Prop := fun xs H Q => ∃ i, xs = [.int i] ∧ Q (.int i) H
def rIntB : List V → Hp → VK → Prop := fun xs H Q => ∃ k, xs = [.bl k] ∧ Q (.int (if k = true then 1 else 0)) H
section
variable {X : Cx}
theorem intI : CallR X (.type "int") rIntI := fun pins s σ H xs us Q I r h => call_int1 pins s σ H xs us Q I r (.inl h)
theorem intB : CallR X (.type "int") rIntB := fun pins s σ H xs us Q I r h => call_int1 pins s σ H xs us Q I r (.inr h)
end
end WK
namespace WK
open PySem PySem.Spec PyProof.Rows L2
/-! ### isinstance -/
theorem isi_of {K : PySem.W.Frag} {H : Hp} {x : V} {t : Value} {n : String} {b : Bool} {R : Bool → Prop} (ht : TyX K H x t) (hk : PySem.W.kitOne K t (.type n) = some b) (r : R b) :
    ∃ t u, ClsV (.ty n) u ∧ TyX K H x t ∧ ∃ b, PySem.W.kitOne K t u = some b ∧ R b := ⟨t, _, .ty n, ht, b, hk, r⟩
theorem isi_own {K : PySem.W.Frag} {H : Hp} {x : V} {t : Value} {C : Addr} {b : Bool} {R : Bool → Prop} (ht : TyX K H x t) (hk : PySem.W.kitOne K t (.ref C) = some b) (r : R b) :
    ∃ t u, ClsV (.ref C) u ∧ TyX K H x t ∧ ∃ b, PySem.W.kitOne K t u = some b ∧ R b := ⟨t, _, .own C, ht, b, hk, r⟩
theorem isi_tt {K : PySem.W.Frag} {H : Hp} {t : Addr} {xs : List V} {R : Bool → Prop} (ht : H t = some (.tup xs)) (r : R true) :
    ∃ t', ∃ u, ClsV (.ty "tuple") u ∧ TyX K H (.ref t) t' ∧ ∃ b, PySem.W.kitOne K t' u = some b ∧ R b := isi_of (.base (.tup ht)) rfl r
theorem isi_ll {K : PySem.W.Frag} {H : Hp} {t : Addr} {xs : List V} {R : Bool → Prop} (ht : H t = some (.lst xs)) (r : R true) :
    ∃ t', ∃ u, ClsV (.ty "list") u ∧ TyX K H (.ref t) t' ∧ ∃ b, PySem.W.kitOne K t' u = some b ∧ R b := isi_of (.base (.lst ht)) rfl r
section
variable {K : PySem.W.Frag} {H : Hp} {n : String} {R : Bool → Prop}
theorem isi_int {i : Int} : (∃ t u, ClsV (.ty n) u ∧ TyX K H (.int i) t ∧ ∃ b, PySem.W.kitOne K t u = some b ∧ R b) = ∃ b, PySem.W.kitOne K (.type "int") (.type n) = some b ∧ R b := by
  apply propext
  constructor
  · rintro ⟨t, u, c, h, b, k, r⟩
    cases c
    cases h with | base h => cases h; exact ⟨b, k, r⟩
  · rintro ⟨b, k, r⟩
    exact isi_of (.base (.int i)) k r
theorem isi_str {i : Str} : (∃ t u, ClsV (.ty n) u ∧ TyX K H (.str i) t ∧ ∃ b, PySem.W.kitOne K t u = some b ∧ R b) = ∃ b, PySem.W.kitOne K (.type "str") (.type n) = some b ∧ R b := by
  apply propext
  constructor
  · rintro ⟨t, u, c, h, b, k, r⟩
    cases c
    cases h with | base h => cases h; exact ⟨b, k, r⟩
  · rintro ⟨b, k, r⟩
    exact isi_of (.base (.str i)) k r
theorem isi_bl {i : Bool} : (∃ t u, ClsV (.ty n) u ∧ TyX K H (.bl i) t ∧ ∃ b, PySem.W.kitOne K t u = some b ∧ R b) = ∃ b, PySem.W.kitOne K (.type "bool") (.type n) = some b ∧ R b := by
  apply propext
  constructor
  · rintro ⟨t, u, c, h, b, k, r⟩
    cases c
    cases h with | base h => cases h; exact ⟨b, k, r⟩
  · rintro ⟨b, k, r⟩
    exact isi_of (.base (.bl i)) k r
theorem isi_non : (∃ t u, ClsV (.ty n) u ∧ TyX K H .non t ∧ ∃ b, PySem.W.kitOne K t u = some b ∧ R b) = ∃ b, PySem.W.kitOne K (.type "NoneType") (.type n) = some b ∧ R b := by
  apply propext
  constructor
  · rintro ⟨t, u, c, h, b, k, r⟩
    cases c
    cases h with | base h => cases h; exact ⟨b, k, r⟩
  · rintro ⟨b, k, r⟩
    exact isi_of (.base .non) k r
theorem kit_ii : PySem.W.kitOne K (.type "int") (.type "int") = some true := rfl
theorem kit_ss : PySem.W.kitOne K (.type "str") (.type "str") = some true := rfl
theorem kit_bb : PySem.W.kitOne K (.type "bool") (.type "bool") = some true := rfl
theorem kit_ib : PySem.W.kitOne K (.type "int") (.type "bool") = some false := by kernel_rfl
theorem kit_is : PySem.W.kitOne K (.type "int") (.type "str") = some false := by kernel_rfl
theorem kit_it : PySem.W.kitOne K (.type "int") (.type "tuple") = some false := by kernel_rfl
theorem kit_il : PySem.W.kitOne K (.type "int") (.type "list") = some false := by kernel_rfl
theorem kit_si : PySem.W.kitOne K (.type "str") (.type "int") = some false := by kernel_rfl
theorem kit_sb : PySem.W.kitOne K (.type "str") (.type "bool") = some false := by kernel_rfl
theorem kit_st : PySem.W.kitOne K (.type "str") (.type "tuple") = some false := by kernel_rfl
theorem kit_sl : PySem.W.kitOne K (.type "str") (.type "list") = some false := by kernel_rfl
theorem kit_bi : PySem.W.kitOne K (.type "bool") (.type "int") = some true := by kernel_rfl
theorem kit_bs : PySem.W.kitOne K (.type "bool") (.type "str") = some false := by kernel_rfl
theorem kit_bt : PySem.W.kitOne K (.type "bool") (.type "tuple") = some false := by kernel_rfl
theorem kit_ni : PySem.W.kitOne K (.type "NoneType") (.type "int") = some false := by kernel_rfl
theorem kit_ns : PySem.W.kitOne K (.type "NoneType") (.type "str") = some false := by kernel_rfl
theorem kit_nt : PySem.W.kitOne K (.type "NoneType") (.type "tuple") = some false := by kernel_rfl
theorem kit_tt : PySem.W.kitOne K (.type "tuple") (.type "tuple") = some true := rfl
theorem kit_tl : PySem.W.kitOne K (.type "tuple") (.type "list") = some false := by kernel_rfl
theorem kit_ti : PySem.W.kitOne K (.type "tuple") (.type "int") = some false := by kernel_rfl
theorem kit_ts : PySem.W.kitOne K (.type "tuple") (.type "str") = some false := by kernel_rfl
theorem kit_ll : PySem.W.kitOne K (.type "list") (.type "list") = some true := rfl
theorem kit_lt : PySem.W.kitOne K (.type "list") (.type "tuple") = some false := by kernel_rfl
theorem kit_li : PySem.W.kitOne K (.type "list") (.type "int") = some false := by kernel_rfl
theorem kit_ls : PySem.W.kitOne K (.type "list") (.type "str") = some false := by kernel_rfl
end
theorem pgTup {X : Cx} {pos : Pos} (K : PySem.W.Frag) {es : List Expr} {k : Nat} {t : TGs} {n : Nat} (h : PGs X es t) (hc : X.calm = true := by rfl) (hK : X.K = K := by rfl)
    (hn : (assignEach es X.env).length = n := by rfl) (hst : (assignEach es X.env).findIdx? (·.1) = none := by rfl) : PG X (.Tuple es k pos) (gTup K n t) := by
  subst hK
  exact pg_tup hc h hn hst
theorem ite_t {c : Bool} {A T : Prop} (t : T) (h : c = true → T → A) : if c = true then A else T := by
  cases c with
  | true => exact h rfl t
  | false => exact t
end WK
/-! ## Part 2: defs that ask for the text of data (repr): nothing that guards a repr runs around them -/
namespace WK
open PySem PySem.Spec PyProof.Rows L2
structure GFn (P : Program) (w : World) (K : PySem.W.Frag) (mg : Str → Option Value) (base : Heap) (C : CXT) (k : Nat) (f : Addr) (fd : FuncData) (ps : List Str) (sp : Sp) : Prop where
  len : ∀ vs H Q E, sp vs H Q E → vs.length = ps.length
  go : ∀ (A : Around) (outer : List Env) (s : Shared) (H : Hp) (args : Args) (us : List Value) (vs : List V) (Q : VK) (E : XK), Room k A → A.guards = some [] → Env0 P w K mg base A outer s H →
    BindsTo s fd args (ps.zip us) → Vals vs us → sp vs H Q E → codeAny (model P w) A (.call (.ref f) args) (CR C outer P w H s Q E) s
theorem GFn.of {P : Program} {w : World} {K : PySem.W.Frag} {mg : Str → Option Value} {base : Heap} {C : CXT} {k : Nat} {f : Addr} {fd : FuncData} {ps : List Str} {sp : Sp} (F : FnOk P w K mg base C k f fd ps sp) : GFn P w K mg base C k f fd ps sp :=
  ⟨F.len, fun A outer s H args us vs Q E hr _ he hb hv hs => F.run A outer s H args us vs Q E hr he hb hv hs⟩
/-- the body rule -/
theorem gfn_of {P : Program} {w : World} {K : PySem.W.Frag} {mg : Str → Option Value} {base : Heap} {C : CXT} {k : Nat} {f : Addr} {x q : Str} {pa : Arguments} {bd : List Stmt} {sc : Scope} {fd : FuncData} {N ps : List Str} {sp : Sp}
    (F : FunD K x q pa bd sc [] [] f fd) (S : FnScope N ps sc) (len : ∀ vs H Q E, sp vs H Q E → vs.length = ps.length)
    (body : ∀ (cd : Value) (A : Around) (outer : List Env) (s : Shared) (H : Hp) (vs : List V) (Q : VK) (E : XK), Room k (A.deeper (envOfC q sc s.heap.objs.size f cd)) → (A.deeper (envOfC q sc s.heap.objs.size f cd)).guards = some [] → sp vs H Q E →
      ∃ t, PSs (cxOf C P w K mg base N q sc f cd A outer s H E) bd t ∧ t { nx := fun _ H' => Q .non H', rt := Q } (start N vs) H) : GFn P w K mg base C (k + 1) f fd ps sp := by
  obtain ⟨oc, od, dV, kV, doc, pm, an, cd, ct, osl, rfl, lk, hcd, _, _⟩ := F.ex
  refine ⟨len, fun A outer s H args us vs Q E room gd env0 bnd rel want => ?_⟩
  have len2 := len _ _ _ _ want
  have inK : K.In s.heap := env0.mod.kin.keeps fun b o z => (env0.bs b o z).1
  have nolim : s.heap.NoLimit := env0.mod.nolimit.keeps fun b o z => (env0.bs b o z).1
  have kinds : ∀ y ∈ ps.zip us, sc.names.lookup y.1 = some .local ∨ (sc.names.lookup y.1 = some .cell ∧ ((cellsFrom (s.heap.objs.size + 1) sc.names []).lookup y.1).isSome = true) := by
    rintro ⟨n, v⟩ hy
    cases S.par n (List.of_mem_zip hy).1 with
    | inl z => exact .inl z
    | inr z => exact .inr ⟨z, PySem.W.cellsFrom_some _ _ _ (.inl z)⟩
  refine codeAny_call_function room.depth (inK _ _ lk) rfl S.co S.gen rfl (PySem.W.codeRec_of inK hcd) (bnd _ _ _ _ ?_)
  refine wpAny_newFunctionEnv_cells S.kind kinds fun env' ee s1 x1 => ?_
  subst ee
  refine ⟨nolim.keeps x1.toInCall.keep, codeAny_func ?_⟩
  obtain ⟨t, ht, hq⟩ := body cd A outer s H vs Q E (room.deeper _) gd want
  have II : Inv (cxOf C P w K mg base N q sc f cd A outer s H E) [] (start N vs) H s1 := inv_start S room.hd env0 len2 rel x1
  refine wpAny_mono (ht.run [] s1 (start N vs) H _ II hq) (fun fl s2 hs => ?_) fun e s2 hs => hs
  cases fl with
  | ret u =>
    obtain ⟨v, σ2, H2, J, rv, hv⟩ := hs
    exact ⟨v, H2, J.os, J.bare, J.base, J.hok, rv, hv⟩
  | next =>
    obtain ⟨σ2, H2, J, hv⟩ := hs
    exact ⟨V.non, H2, J.os, J.bare, J.base, J.hok, rfl, hv⟩
  | brk =>
    obtain ⟨_, _, _, z⟩ := hs
    exact z.elim
  | cont =>
    obtain ⟨_, _, _, z⟩ := hs
    exact z.elim
theorem gfn_of0 {P : Program} {w : World} {K : PySem.W.Frag} {mg : Str → Option Value} {base : Heap} {k : Nat} {f : Addr} {x q : Str} {pa : Arguments} {bd : List Stmt} {sc : Scope} {fd : FuncData} {N ps : List Str} {sp : Sp}
    (F : FunD K x q pa bd sc [] [] f fd) (S : FnScope N ps sc) (len : ∀ vs H Q E, sp vs H Q E → vs.length = ps.length)
    (body : ∀ (cd : Value) (A : Around) (outer : List Env) (s : Shared) (H : Hp) (vs : List V) (Q : VK) (E : XK), Room k (A.deeper (envOfC q sc s.heap.objs.size f cd)) → (A.deeper (envOfC q sc s.heap.objs.size f cd)).guards = some [] → sp vs H Q E →
      ∃ t, PSs (cxOf CX0 P w K mg base N q sc f cd A outer s H E).nox bd t ∧ t { nx := fun _ H' => Q .non H', rt := Q } (start N vs) H) : GFn P w K mg base CX0 (k + 1) f fd ps sp :=
  gfn_of F S len fun cd A outer s H vs Q E hr gd h => by
    obtain ⟨t, h1, h2⟩ := body cd A outer s H vs Q E hr gd h
    exact ⟨t, h1.nox, h2⟩
structure OkG (P : Program) (w : World) (K : PySem.W.Frag) (mg : Str → Option Value) (base : Heap) (C : CXT) (k : Nat) (x : Str) (ps : List Str) (sp : Sp) : Prop where
  ex : ∃ fd, GFn P w K mg base C k (He.ga K x) fd ps sp ∧ Binds K fd ps []
  kp : PySem.W.keepIn K (.ref (He.ga K x)) = true
  at_ : mg x = some (.ref (He.ga K x))
theorem Ok.g {P : Program} {w : World} {K : PySem.W.Frag} {mg : Str → Option Value} {base : Heap} {C : CXT} {k : Nat} {x : Str} {ps : List Str} {sp : Sp} (O : Ok P w K mg base C k x ps sp) : OkG P w K mg base C k x ps sp := by
  obtain ⟨fd, F, B⟩ := O.ex
  exact ⟨⟨fd, .of F, B⟩, O.kp, O.at_⟩
theorem OkG.mk' {P : Program} {w : World} {K : PySem.W.Frag} {mg : Str → Option Value} {base : Heap} {C : CXT} {k : Nat} {x : Str} {N ps : List Str} {st : Stmt} {sp : Sp}
    (F : ∃ fd, FunD K x x (defArgs st) (defBody st) (defScope st) [] [] (He.ga K x) fd) (g : mg x = some (.ref (He.ga K x))) (S : FnScope N ps (defScope st)) (len : ∀ vs H Q E, sp vs H Q E → vs.length = ps.length)
    (hb : ∀ (kV doc pm : Value) (an : Option Addr) (cdv ct : Value) (us : List Value), us.length = ps.length → bindArgs (PySem.W.fnOf x x (defArgs st) (defBody st) (defScope st) .none kV doc pm an cdv ct) ⟨us, []⟩ = pure (ps.zip us))
    (hbody : ∀ (f : Addr) (cdv : Value) (A : Around) (outer : List Env) (s : Shared) (H : Hp) (vs : List V) (Q : VK) (E : XK), Room k (A.deeper (envOfC x (defScope st) s.heap.objs.size f cdv)) →
      (A.deeper (envOfC x (defScope st) s.heap.objs.size f cdv)).guards = some [] → sp vs H Q E →
      ∃ t, PSs (cxOf C P w K mg base N x (defScope st) f cdv A outer s H E) (defBody st) t ∧ t { nx := fun _ H' => Q .non H', rt := Q } (start N vs) H) : OkG P w K mg base C (k + 1) x ps sp := by
  obtain ⟨fd, F⟩ := F
  exact ⟨⟨fd, gfn_of F S len fun cdv A outer s H vs Q E => hbody _ cdv A outer s H vs Q E, F.bindsN hb⟩, F.kp, g⟩
theorem OkG.mk0 {P : Program} {w : World} {K : PySem.W.Frag} {mg : Str → Option Value} {base : Heap} {k : Nat} {x : Str} {N ps : List Str} {st : Stmt} {sp : Sp}
    (F : ∃ fd, FunD K x x (defArgs st) (defBody st) (defScope st) [] [] (He.ga K x) fd) (g : mg x = some (.ref (He.ga K x))) (S : FnScope N ps (defScope st)) (len : ∀ vs H Q E, sp vs H Q E → vs.length = ps.length)
    (hb : ∀ (kV doc pm : Value) (an : Option Addr) (cdv ct : Value) (us : List Value), us.length = ps.length → bindArgs (PySem.W.fnOf x x (defArgs st) (defBody st) (defScope st) .none kV doc pm an cdv ct) ⟨us, []⟩ = pure (ps.zip us))
    (hbody : ∀ (f : Addr) (cdv : Value) (A : Around) (outer : List Env) (s : Shared) (H : Hp) (vs : List V) (Q : VK) (E : XK), Room k (A.deeper (envOfC x (defScope st) s.heap.objs.size f cdv)) →
      (A.deeper (envOfC x (defScope st) s.heap.objs.size f cdv)).guards = some [] → sp vs H Q E →
      ∃ t, PSs (cxOf CX0 P w K mg base N x (defScope st) f cdv A outer s H E).nox (defBody st) t ∧ t { nx := fun _ H' => Q .non H', rt := Q } (start N vs) H) : OkG P w K mg base CX0 (k + 1) x ps sp :=
  OkG.mk' F g S len hb fun f cdv A outer s H vs Q E hr hgd h => by
    obtain ⟨t, h1, h2⟩ := hbody f cdv A outer s H vs Q E hr hgd h
    exact ⟨t, h1.nox, h2⟩
section
variable {X : Cx} {C : CXT} {k j : Nat} {ps : List Str} {sp : Sp} {E : XK} {x : Str} {p pos : Pos} {e : Expr} {es : List Expr} {t : TA}
theorem run_g {f : Addr} {fd : FuncData} {pins : List (Addr × Obj)} {σ : L2.St} {H : Hp} {s : Shared} {Q : VK} {us : List Value} {vs : List V} (F : GFn X.prog X.w X.K X.mg X.base C k f fd ps sp) (hr : Room k X.A) (gd : X.A.guards = some []) (hb : Binds X.K fd ps []) (hx : Passes C X E)
    (I : Inv X pins σ H s) (r : Vals vs us) (h : sp vs H Q E) : wpAny (model X.prog X.w) X.A (call (.ref f) us) (EP X pins σ Q) X.xe s := by
  have n1 : us.length = ps.length := by
    rw [← r.length]
    exact F.len _ _ _ _ h
  have b1 := hb s us I.kIn (by rw [List.append_nil]; exact n1)
  rw [List.append_nil] at b1
  refine wpAny_call (codeAny_mono (F.go X.A X.stack s H ⟨us, []⟩ us vs Q E hr gd I.env0 b1 r h) fun res s2 hq => ?_)
  match res, hq with
  | .error er, hq => exact hx pins σ H s er s2 I hq
  | .ok (.ret u), hq => exact I.after hq
  | .ok .next, hq => exact False.elim hq
  | .ok .brk, hq => exact False.elim hq
  | .ok .cont, hq => exact False.elim hq
theorem calGX (O : OkG X.prog X.w X.K X.mg X.base C k x ps sp) (hr : Room j X.A) (gd : X.A.guards = some []) (hx : Passes C X E) (ha : PA X (e :: es) t) (hj : k ≤ j := by first | decide | omega) (hg : Gl X x := by rfl) (hdb : (x == ("__debug__" : Str)) = false := by decide)
    (he : starEach (e :: es) X.env = (false, eval e X.env) :: starEach es X.env := by rfl) (hpl : (backTo pos (starEach es X.env)).any (·.1) = false := by rfl) : PE X (.Call (.Name x p) (e :: es) [] pos) (tCal sp E t) := by
  obtain ⟨fd, F, B⟩ := O.ex
  refine ⟨fun pins s σ H Q I h => ?_⟩
  refine wpAny_Call_Name_kw (ld_glob I hg O.at_ ?_ hdb)
  refine PySem.W.callWith_K (h₀ := X.base) I.ok.mod.kin O.kp (thn (ha.run pos pins s σ H _ I h) fun us s1 ⟨vs, H1, I1, r, hq⟩ => ⟨I1.kIn, ?_⟩) he hpl
  exact run_g F (hr.mono hj) gd B hx I1 r hq
theorem calG (O : OkG X.prog X.w X.K X.mg X.base CX0 k x ps sp) (hr : Room j X.A) (gd : X.A.guards = some []) (ha : PA X (e :: es) t) (hj : k ≤ j := by first | decide | omega) (hg : Gl X x := by rfl) (hdb : (x == ("__debug__" : Str)) = false := by decide)
    (he : starEach (e :: es) X.env = (false, eval e X.env) :: starEach es X.env := by rfl) (hpl : (backTo pos (starEach es X.env)).any (·.1) = false := by rfl) : PE X (.Call (.Name x p) (e :: es) [] pos) (tCal sp E0 t) :=
  calGX O hr gd pass0 ha hj hg hdb he hpl
/-- repr(x), data at any depth but dicts -/
def rRepr (K : PySem.W.Frag) : List V → Hp → VK → Prop := fun xs H Q => ∃ x d, xs = [x] ∧ Dp K H x d ∧ d.showable = true ∧ d.hasDict = false ∧ d.depth ≤ 60 ∧ d.shown.length ≤ sizeLine ∧ Q (.str d.shown) H
theorem reprD (K : PySem.W.Frag) {i : Nat} (hr : Room i X.A) (gd : X.A.guards = some []) (h : X.K = K := by rfl) : CallR X (.builtin "repr") (rRepr K) := by
  subst h
  intro pins s σ H xs us Q I r hw
  obtain ⟨x, d, rfl, hd, h1, h2, h3, h4, q⟩ := hw
  obtain ⟨u, rfl, ru⟩ := vals1 r
  cases hd with
  | non =>
    cases ru
    exact PySem.P.repr_of_none ⟨.str _, H, I.tok _, ⟨_, rfl⟩, q⟩
  | bl b =>
    cases ru
    exact PySem.P.repr_of_bool ⟨.str _, H, I.tok _, ⟨_, rfl⟩, q⟩
  | int n =>
    obtain ⟨t, rfl⟩ := ru
    exact PySem.P.repr_of_int (of_decide_eq_true h1) ⟨.str _, H, I.tok _, ⟨_, rfl⟩, q⟩
  | str z =>
    obtain ⟨t, rfl⟩ := ru
    exact PySem.P.repr_of_str ⟨.str _, H, I.tok _, ⟨_, rfl⟩, q⟩ h4
  | @lst a zs ds hs ha =>
    cases ru
    obtain ⟨as, rd⟩ := Dp.reads I _ _ _ (Dp.lst hs ha) (show RelV (.ref a) (.ref a) from rfl)
    refine repr_of_reads' (h₀ := s.heap) rd h1 (PyData.noDict_hsm h2) gd ?_ (fun _ _ z => z) (fun h' u tk k => ⟨.str _, H, I.kept (t' := tk) k, ⟨u, rfl⟩, q⟩) h4
    have := hr.units
    omega
  | @tup a zs ds hs ha =>
    cases ru
    obtain ⟨as, rd⟩ := Dp.reads I _ _ _ (Dp.tup hs ha) (show RelV (.ref a) (.ref a) from rfl)
    refine repr_of_reads' (h₀ := s.heap) rd h1 (PyData.noDict_hsm h2) gd ?_ (fun _ _ z => z) (fun h' u tk k => ⟨.str _, H, I.kept (t' := tk) k, ⟨u, rfl⟩, q⟩) h4
    have := hr.units
    omega
end
/-- the law's own call -/
theorem law_callG {P : Program} {w : World} {K : PySem.W.Frag} {mg mb : Str → Option Value} {k : Nat} {fa a : Addr} {fd : FuncData} {x : Str} {sp : Sp} {s₁ : Shared} {vs : List Value} {ns : List Int}
    (inK : K.In s₁.heap) (hmg : s₁.heap.Ns mainGlobals mg) (hmb : s₁.heap.Ns builtinsNs mb) (boot : ∀ x : Str, x ≠ "__name__" → mb x = bootBuiltins x) (nolim : s₁.heap.NoLimit) (gens : s₁.gens = #[])
    (ha : s₁.heap.get? a = some { cls := .type "list", data := .seq vs.toArray }) (hi : IntsAre vs ns) (hl : ns.length ≤ sizeLine) (room : Room k callerA)
    (F : ∀ base : Heap, K.In base → base.Ns mainGlobals mg → GFn P w K mg base CX0 k fa fd [x] sp) (bnd : ∀ (s : Shared) (u : Value), BindsTo s fd ⟨[u], []⟩ [(x, u)])
    (want : ∀ H : Hp, Only H → SqL K H a (ns.map V.int) → sp [.ref a] H (fun v _ => v = .bl true) fun _ _ _ => False) :
    codeAny (model P w) callerA (.call (.ref fa) ⟨[.ref a], []⟩) (fun r s2 => r = .ok (.ret (.bool true)) ∧ OldK s₁.heap s2.heap ∧ s2.os = s₁.os ∧ AllBare s2.gens) s₁ := by
  have rel := vals_ints hi
  have lens := hi.length
  have main : ∀ H : Hp, Only H → SqL K H a (ns.map V.int) → HOk P w H s₁.heap → (∀ b, H b ≠ none → b = a) → (H a ≠ none → K.lookup a = none) →
      codeAny (model P w) callerA (.call (.ref fa) ⟨[.ref a], []⟩) (fun r s2 => r = .ok (.ret (.bool true)) ∧ OldK s₁.heap s2.heap ∧ s2.os = s₁.os ∧ AllBare s2.gens) s₁ := by
    intro H only seq hok onlyA notK
    have dict0 : ∀ {b : Addr} {o : Obj} {es : Array DictEntry} {ep : Nat}, s₁.heap.get? b = some o → o.data = .dict es ep → H b = none := by
      intro b o es ep e dd
      cases hb : H b with
      | none => rfl
      | some u =>
        have eb : b = a := onlyA b (by rw [hb]; exact Option.some_ne_none u)
        rw [eb, ha] at e
        have eo := Option.some.inj e
        rw [← eo] at dd
        cases dd
    have nsT : ∀ {b : Addr} {m : Str → Option Value}, s₁.heap.Ns b m → (hidT s₁.heap H).Ns b m := by
      rintro b m ⟨o, es, ep, e, dd, rr⟩
      exact ⟨o, es, ep, hidT_get e (dict0 e dd), dd, rr⟩
    have inT : K.In (hidT s₁.heap H) := fun b o e => hidT_get (inK b o e) (by
      cases hb : H b with
      | none => rfl
      | some u =>
        have eb : b = a := onlyA b (by rw [hb]; exact Option.some_ne_none u)
        have nk := notK (by rw [← eb, hb]; exact Option.some_ne_none u)
        rw [eb, nk] at e
        cases e)
    have md : Mod K mg (hidT s₁.heap H) := by
      obtain ⟨mc, z1, z2⟩ := nolim
      exact ⟨inT, nsT hmg, ⟨mb, nsT hmb, boot⟩, ⟨mc, nsT z1, z2⟩⟩
    have env0 : Env0 P w K mg (hidT s₁.heap H) callerA [] s₁ H := ⟨rfl, md, fun b o e => of_hidT e, Nat.le_of_eq (hidT_size _ _), trivial, fun b hb => (nomatch hb), hok, .of_eq gens⟩
    refine codeAny_mono ((F _ inT (nsT hmg)).go callerA [] s₁ H ⟨[.ref a], []⟩ [.ref a] [.ref a] _ _ room rfl env0 (bnd s₁ (.ref a)) (.cons rfl .nil) (want H only seq)) fun r s2 h => ?_
    match r, h with
    | .error e, h => exact h.elim
    | .ok .next, h => exact h.elim
    | .ok .brk, h => exact h.elim
    | .ok .cont, h => exact h.elim
    | .ok (.ret u), h =>
      obtain ⟨v, H2, os2, bare, un, hok2, rv, hv⟩ := h
      have hv2 : v = .bl true := hv
      rw [hv2] at rv
      have hu : u = Value.bool true := rv
      rw [hu]
      refine ⟨rfl, OldK.of_keep fun b o e => ?_, os2, bare⟩
      cases hb : H b with
      | none => exact un.keep b o e hb (fun z => nomatch z) (fun z => nomatch z)
      | some u2 =>
        rcases only b with z | ⟨o3, xs, z⟩
        · rw [hb] at z
          cases z
        · have z2 := un.frzs b o3 _ z
          have y1 := (hok b _ z).1
          have y2 := (hok2 b _ z2).1
          rw [e] at y1
          rw [Option.some.inj y1]
          exact y2
  cases lk : K.lookup a with
  | some o =>
    have e := inK a o lk
    rw [ha] at e
    rw [← Option.some.inj e] at lk
    refine main (fun _ => none) (fun _ => .inl rfl) (.inr ⟨_, vs.toArray, _, lk, rfl, rfl, rfl, ?_, by simpa using rel⟩) (fun b u z => (nomatch z)) (fun b z => absurd rfl z) fun z => absurd rfl z
    rw [List.size_toArray, lens]
    exact hl
  | none =>
    refine main (fun b => if b = a then some (.frz { cls := .type "list", data := .seq vs.toArray } (.lst (ns.map V.int))) else none) (fun b => ?_) (.inl (.inr ⟨_, if_pos rfl⟩)) (fun b u z => ?_) (fun b z => ?_) fun _ => lk
    · by_cases eb : b = a
      · exact .inr ⟨_, _, if_pos eb⟩
      · exact .inl (if_neg eb)
    · by_cases eb : b = a
      · have z2 := (if_pos eb).symm.trans z
        have z3 := Option.some.inj z2
        rw [← z3, eb]
        exact ⟨ha, by rw [List.length_map]; exact hl, vs, _, rel, ha⟩
      · have z2 := (if_neg eb).symm.trans z
        cases z2
    · by_cases eb : b = a
      · exact eb
      · exact absurd (if_neg eb) z
theorem walkG {l : PySem.W.OpenLaw} {n k : Nat} {q : Program} {loose : List Str} {XP : (Str → Option Value) → Heap → Prop} {YP : World → Heap → Prop} {d : DefRec} {x : Str}
    (hn : l.most = some n) (hn2 : n ≤ sizeLine) (hdf : d.params.defaults = []) (room : Room k callerA)
    (F : ∀ (w : World) (mg : Str → Option Value) (fa : Addr) (h : Heap), YP w h → h.Ns mainGlobals mg → mg d.name = some (.ref fa) →
      ∃ (K : PySem.W.Frag) (fd : FuncData) (sp : Sp), K.In h ∧ (∀ (s : Shared) (u : Value), BindsTo s fd ⟨[u], []⟩ [(x, u)]) ∧
        (∀ (H : Hp) (a : Addr) (ns : List Int), ns.length ≤ n → Only H → SqL K H a (ns.map V.int) → sp [.ref a] H (fun v _ => v = .bl true) fun _ _ _ => False) ∧
        ∀ base : Heap, K.In base → base.Ns mainGlobals mg → GFn l.prog w K mg base CX0 k fa fd [x] sp) :
    PySem.W.WalkO q loose XP YP l.row.toRowW d [] (fun f vs => PySem.call f vs) := by
  refine Att.attach_call hn hdf fun w s₀ s₁ mg mb fa o pm cd doc a vs ns G Y ho hd hcd hmg hobj hints hlen hg => ?_
  obtain ⟨K, fd, sp, inK, hb, want, hF⟩ := F w mg fa _ Y G.T.g hmg
  exact law_callG inK G.T.g G.T.b G.T.builtins G.T.nolimit hg hobj hints (Nat.le_trans hlen hn2) room hF hb fun H only seq => want H a ns hlen only seq
end WK
/-! ## Part 3: what stays in the heap -/
namespace WK
open PySem PySem.Spec PyProof.Rows L2
/-- all that H tells but of a stays told -/
def But (a : Addr) (H H' : Hp) : Prop := ∀ b o, b ≠ a → H b = some o → H' b = some o
theorem But.refl {a : Addr} {H : Hp} : But a H H := fun _ _ _ h => h
theorem But.trans {a : Addr} {H H1 H2 : Hp} (x : But a H H1) (y : But a H1 H2) : But a H H2 := fun b o n h => y b o n (x b o n h)
theorem But.at {a : Addr} {H H' : Hp} {o : HO} (x : But a H H') : But a H (upd H' a o) := fun b u n h => by
  rw [upd_ne n]
  exact x b u n h
theorem But.new {a p : Addr} {H H' : Hp} {o : HO} (x : But a H H') (np : H' p = none) : But a H (upd H' p o) := fun b u n h => by
  have h2 := x b u n h
  rw [upd_ne (ne_of_none h2 np)]
  exact h2
theorem But.of_same {a : Addr} {H H' : Hp} (x : Same H H') : But a H H' := fun b o _ h => x b o h
theorem But.fresh {a p : Addr} {H H' : Hp} (x : But a H H') (n : p ≠ a) (h : H' p = none) : H p = none := by
  cases q : H p with
  | none => rfl
  | some o =>
    have := x p o n q
    rw [h] at this
    cases this
theorem But.sqT {K : PySem.W.Frag} {a t : Addr} {H H' : Hp} {zs xs : List V} (x : But a H H') (ha : H a = some (.lst zs)) (h : SqT K H t xs) : SqT K H' t xs := by
  rcases h with (h | ⟨o, h⟩) | h
  · exact .inl (.inl (x t _ (ne_of h ha (by intro z; cases z)) h))
  · exact .inl (.inr ⟨o, x t _ (ne_of h ha (by intro z; cases z)) h⟩)
  · exact .inr h
theorem But.sqL {K : PySem.W.Frag} {a t : Addr} {H H' : Hp} {xs : List V} (x : But a H H') (n : t ≠ a) (h : SqL K H t xs) : SqL K H' t xs := by
  rcases h with (h | ⟨o, h⟩) | h
  · exact .inl (.inl (x t _ n h))
  · exact .inl (.inr ⟨o, x t _ n h⟩)
  · exact .inr h
theorem same_new {H : Hp} {p : Addr} {o : HO} (np : H p = none) : Same H (upd H p o) := fun b u e => by
  rw [upd_ne (ne_of_none e np)]
  exact e
theorem _root_.L2.Same.new {H H' : Hp} {p : Addr} {o : HO} (x : Same H H') (np : H' p = none) : Same H (upd H' p o) := x.trans (same_new np)
theorem _root_.L2.Same.own {H H' : Hp} {p : Addr} {o : HO} (x : Same H H') (np : H p = none) : Same H (upd H' p o) := fun b u e => by
  rw [upd_ne (ne_of_none e np)]
  exact x b u e
theorem _root_.L2.Same.sqT {K : PySem.W.Frag} {t : Addr} {H H' : Hp} {xs : List V} (x : Same H H') (h : SqT K H t xs) : SqT K H' t xs := by
  rcases h with (h | ⟨o, h⟩) | h
  · exact .inl (.inl (x t _ h))
  · exact .inl (.inr ⟨o, x t _ h⟩)
  · exact .inr h
theorem sqT_of {K : PySem.W.Frag} {H : Hp} {a : Addr} {xs : List V} (h : H a = some (.tup xs)) : SqT K H a xs := .inl (.inl h)
theorem sqL_of {K : PySem.W.Frag} {H : Hp} {a : Addr} {xs : List V} (h : H a = some (.lst xs)) : SqL K H a xs := .inl (.inl h)
theorem upd_at {H : Hp} {a b : Addr} {o u : HO} (n : b ≠ a) (h : H b = some u) : upd H a o b = some u := by
  rw [upd_ne n]
  exact h
theorem upd_new {H : Hp} {a b : Addr} {o u : HO} (n : H a = none) (h : H b = some u) : upd H a o b = some u := by
  rw [upd_ne (ne_of_none h n)]
  exact h
/-! ### sizes -/
theorem pow_nat (k : Nat) : (2 : Int) ^ k = ((2 ^ k : Nat) : Int) := PySem.W.kbt_cast k ▸ rfl
theorem pow_pos' (k : Nat) : (0 : Int) < 2 ^ k := PySem.W.kbt_pos k
theorem abs_pow (k : Nat) : ((2 : Int) ^ k).natAbs = 2 ^ k := by
  rw [pow_nat, Int.natAbs_natCast]
theorem cdiv_pow {i : Int} {k : Nat} (h : k ≤ 8000) : CDivW i (2 ^ k) :=
  wide_div (b := k + 1) (pow_pos' k) (by rw [abs_pow]; exact Nat.pow_lt_pow_right (by omega) (by omega)) (by omega) (by omega)
theorem cdiv_of {i j : Int} {k : Nat} (h0 : 0 < j) (h : j < 2 ^ k) (hk : k ≤ 8000) : CDivW i j := by
  refine wide_div (b := k + 1) h0 ?_ (by omega) (by omega)
  have h1 : ((j.natAbs : Nat) : Int) < ((2 ^ k : Nat) : Int) := by
    rw [← pow_nat]
    omega
  have h2 := Int.ofNat_lt.mp h1
  exact Nat.lt_trans h2 (Nat.pow_lt_pow_right (by omega) (by omega))
theorem abs_lt {i : Int} {k : Nat} (h0 : -(2 ^ k) < i) (h : i < 2 ^ k) : i.natAbs < 2 ^ k := by
  have h1 : ((i.natAbs : Nat) : Int) < ((2 ^ k : Nat) : Int) := by
    rw [← pow_nat]
    omega
  exact Int.ofNat_lt.mp h1
theorem nn_lt {i : Int} {k : Nat} (h0 : 0 ≤ i) (h : i < 2 ^ k) : i.natAbs < 2 ^ k := abs_lt (by have := pow_pos' k; omega) h
theorem mulx_of {i j : Int} {a b : Nat} (h0 : 0 ≤ i) (hi : i < 2 ^ a) (h1 : 0 ≤ j) (hj : j < 2 ^ b) (h : a + b ≤ 100000000) : CMulX i j := mulx_ok (nn_lt h0 hi) (nn_lt h1 hj) (by omega)
theorem mul_lt_pow {i j : Int} {a b : Nat} (h0 : 0 ≤ i) (hi : i < 2 ^ a) (h1 : 0 ≤ j) (hj : j < 2 ^ b) : i * j < 2 ^ (a + b) := by
  have h2 := wide_lt (nn_lt h0 hi) (nn_lt h1 hj)
  have h3 : ((i * j).natAbs : Int) < ((2 ^ (a + b) : Nat) : Int) := Int.ofNat_lt.mpr h2
  rw [← pow_nat] at h3
  have := Int.mul_nonneg h0 h1
  omega
theorem pow_le {a b : Nat} (h : a ≤ b) : (2 : Int) ^ a ≤ 2 ^ b := by
  rw [pow_nat, pow_nat]
  exact Int.ofNat_le.mpr (Nat.pow_le_pow_right (by omega) h)
theorem lt_pow {i : Int} {a b : Nat} (h : i < 2 ^ a) (hab : a ≤ b) : i < 2 ^ b := Int.lt_of_lt_of_le h (pow_le hab)
theorem le_size {n : Nat} (h : n ≤ 100000) : n ≤ sizeLine := Nat.le_trans h (by decide)
theorem lt_size {n : Nat} (h : n < 100000) : n < sizeLine := Nat.lt_of_lt_of_le h (by decide)
theorem scal_ii {i j : Int} : scal (.int i) (.int j) = true := rfl
theorem scal_bb {i j : Bool} : scal (.bl i) (.bl j) = true := rfl
theorem scal_ss {i j : Str} : scal (.str i) (.str j) = true := rfl
theorem scal_nn : scal .non .non = true := rfl
theorem scal_in {i : Int} : scal (.int i) .non = true := rfl
theorem scal_ni {i : Int} : scal .non (.int i) = true := rfl
theorem scal_sn {i : Str} : scal (.str i) .non = true := rfl
theorem scal_ns {i : Str} : scal .non (.str i) = true := rfl
theorem scal_bn {i : Bool} : scal (.bl i) .non = true := rfl
theorem scal_nb {i : Bool} : scal .non (.bl i) = true := rfl
theorem scal_is {i : Int} {j : Str} : scal (.int i) (.str j) = true := rfl
theorem scal_si {i : Int} {j : Str} : scal (.str j) (.int i) = true := rfl
theorem ref_inj {a b : Addr} (h : V.ref a = V.ref b) : a = b := by
  cases h
  rfl
theorem int_eq {i j : Int} (h : i = j) : V.int i = V.int j := by rw [h]
theorem cshl_of {i : Int} {a k : Nat} (h0 : 0 ≤ i) (h : i < 2 ^ a) (hk : a + k ≤ 134217728) : CShl i (k : Int) := by
  have h1 := PyProof.Rows.intBits_le (nn_lt h0 h)
  refine ⟨Int.natCast_nonneg _, ?_⟩
  have e : (2 : Int) ^ 27 = 134217728 := by decide
  rw [e]
  omega
theorem But.keepL {K : PySem.W.Frag} {p s : Addr} {H H' : Hp} {xs : List V} (x : But p H H') (np : H p = none) (h : SqL K H s xs) : SqL K H' s xs := by
  rcases h with (h | ⟨o, h⟩) | h
  · exact .inl (.inl (x s _ (ne_of_none h np) h))
  · exact .inl (.inr ⟨o, x s _ (ne_of_none h np) h⟩)
  · exact .inr h
theorem But.own {p : Addr} {H H' : Hp} {o : HO} (x : But p H H') : But p H (upd H' p o) := x.at
end WK
/-! ## Part 4: loops and comprehensions, apart from what they walk -/
namespace WK
open PySem PySem.Spec PyProof.Rows L2
def Loop (J : It) (g : TG) (tb : TS) (D : Ends) (σ : L2.St) (H : Hp) : Prop := ∃ W : Nat → Nat → L2.St → Hp → Prop, (∃ m, W 0 m σ H) ∧ ∀ i m σ H, W i m σ H →
  (J.stop i H ∧ D.nx σ H) ∨ (J.go i H ∧ ∃ N : L2.St → Hp → Prop, (∀ σ' H', N σ' H' → ∃ m', m' < m ∧ W (i + 1) m' σ' H') ∧ ∀ x H', J.yld i H x H' → g x σ H' fun σ2 H2 => tb { D with nx := N, ct := N, bk := D.nx } σ2 H2)
theorem for_eq (wi : TI) (g : TG) (tb : TS) (D : Ends) (σ : L2.St) (H : Hp) : tFor wi g tb D σ H = wi σ H fun J H1 => Loop J g tb D σ H1 := rfl
def CompL (J : It) (g : TG) (tt : TT) (te : TE) (vs : List Nat) (σ : L2.St) (H1 : Hp) (Q : VK) : Prop := ∀ D, H1 D = none → ∃ W : Nat → Nat → Hp → Prop, (∃ m, W 0 m (upd H1 D (.lst []))) ∧ ∀ i m H, W i m H →
  (J.stop i H ∧ Q (.ref D) H) ∨ (J.go i H ∧ ∃ Nx : Hp → Prop, (∀ H', Nx H' → ∃ m', m' < m ∧ W (i + 1) m' H') ∧ ∀ x H', J.yld i H x H' → g x (wipe σ vs) H' fun σ2 H2 => wipe σ2 vs = wipe σ vs ∧ tt σ2 H2 fun b H3 =>
    if b = true then te σ2 H3 fun y H4 => ∃ acc, H4 D = some (.lst acc) ∧ acc.length < sizeLine ∧ Nx (upd H4 D (.lst (acc ++ [y]))) else Nx H3)
theorem lc_eq (wi : TI) (g : TG) (tt : TT) (te : TE) (vs : List Nat) (σ : L2.St) (H : Hp) (Q : VK) : tLc wi g tt te vs σ H Q = wi σ H fun J H1 => CompL J g tt te vs σ H1 Q := rfl
theorem yes_eq (σ : L2.St) (H : Hp) (Q : Bool → Hp → Prop) : tYes σ H Q = Q true H := rfl
section
variable {K : PySem.W.Frag} {g : TG} {tb : TS} {D : Ends} {σ : L2.St} {H : Hp}
/-- over a range -/
theorem loop_r {lo : Int} {n : Nat} (Pv : Nat → L2.St → Hp → Prop) (h0 : Pv 0 σ H) (hs : ∀ i σ H, i < n → Pv i σ H → g (.int (lo + i)) σ H fun σ2 H2 => tb { D with nx := Pv (i + 1), ct := Pv (i + 1), bk := D.nx } σ2 H2)
    (hd : ∀ σ H, Pv n σ H → D.nx σ H) : Loop (Itr lo n) g tb D σ H := for_range Pv h0 hs hd
theorem loop_r0 {n : Nat} (Pv : Nat → L2.St → Hp → Prop) (h0 : Pv 0 σ H) (hs : ∀ (i : Nat) σ H, i < n → Pv i σ H → g (.int (i : Int)) σ H fun σ2 H2 => tb { D with nx := Pv (i + 1), ct := Pv (i + 1), bk := D.nx } σ2 H2)
    (hd : ∀ σ H, Pv n σ H → D.nx σ H) : Loop (Itr 0 n) g tb D σ H := for_range Pv h0 (fun i σ H hi p => by rw [Int.zero_add]; exact hs i σ H hi p) hd
/-- over a list, a tuple that stand still -/
theorem loop_l {a : Addr} {xs : List V} (Pv : Nat → L2.St → Hp → Prop) (h0 : Pv 0 σ H) (hl : ∀ i σ H, i ≤ xs.length → Pv i σ H → SqL K H a xs)
    (hs : ∀ i x σ H, xs[i]? = some x → Pv i σ H → g x σ H fun σ2 H2 => tb { D with nx := Pv (i + 1), ct := Pv (i + 1), bk := D.nx } σ2 H2) (hd : ∀ σ H, Pv xs.length σ H → D.nx σ H) : Loop (Itl K a) g tb D σ H := for_list Pv h0 hl hs hd
theorem loop_t {a : Addr} {xs : List V} (Pv : Nat → L2.St → Hp → Prop) (h0 : Pv 0 σ H) (hl : ∀ i σ H, i ≤ xs.length → Pv i σ H → SqT K H a xs)
    (hs : ∀ i x σ H, xs[i]? = some x → Pv i σ H → g x σ H fun σ2 H2 => tb { D with nx := Pv (i + 1), ct := Pv (i + 1), bk := D.nx } σ2 H2) (hd : ∀ σ H, Pv xs.length σ H → D.nx σ H) : Loop (Itt K a) g tb D σ H := for_tup Pv h0 hl hs hd
variable {tt : TT} {te : TE} {vs : List Nat} {Q : VK}
theorem comp_r {lo : Int} {n : Nat} (Pv : Addr → Nat → Hp → Prop) (h0 : ∀ D, H D = none → Pv D 0 (upd H D (.lst [])))
    (hs : ∀ D i H', H D = none → i < n → Pv D i H' → g (.int (lo + i)) (wipe σ vs) H' fun σ2 H2 => wipe σ2 vs = wipe σ vs ∧ tt σ2 H2 fun b H3 =>
      if b = true then te σ2 H3 fun y H4 => ∃ acc, H4 D = some (.lst acc) ∧ acc.length < sizeLine ∧ Pv D (i + 1) (upd H4 D (.lst (acc ++ [y]))) else Pv D (i + 1) H3) (hd : ∀ D H', H D = none → Pv D n H' → Q (.ref D) H') : CompL (Itr lo n) g tt te vs σ H Q :=
  fun D hD => lc_range (Pv D) (h0 D hD) (fun i H' => hs D i H' hD) fun H' => hd D H' hD
theorem comp_l {a : Addr} {xs : List V} (Pv : Addr → Nat → Hp → Prop) (h0 : ∀ D, H D = none → Pv D 0 (upd H D (.lst []))) (hl : ∀ D i H', H D = none → i ≤ xs.length → Pv D i H' → SqL K H' a xs)
    (hs : ∀ D i x H', H D = none → xs[i]? = some x → Pv D i H' → g x (wipe σ vs) H' fun σ2 H2 => wipe σ2 vs = wipe σ vs ∧ tt σ2 H2 fun b H3 =>
      if b = true then te σ2 H3 fun y H4 => ∃ acc, H4 D = some (.lst acc) ∧ acc.length < sizeLine ∧ Pv D (i + 1) (upd H4 D (.lst (acc ++ [y]))) else Pv D (i + 1) H3) (hd : ∀ D H', H D = none → Pv D xs.length H' → Q (.ref D) H') : CompL (Itl K a) g tt te vs σ H Q :=
  fun D hD => lc_list (Pv D) (h0 D hD) (fun i H' => hl D i H' hD) (fun i x H' => hs D i x H' hD) fun H' => hd D H' hD
theorem comp_t {a : Addr} {xs : List V} (Pv : Addr → Nat → Hp → Prop) (h0 : ∀ D, H D = none → Pv D 0 (upd H D (.lst []))) (hl : ∀ D i H', H D = none → i ≤ xs.length → Pv D i H' → SqT K H' a xs)
    (hs : ∀ D i x H', H D = none → xs[i]? = some x → Pv D i H' → g x (wipe σ vs) H' fun σ2 H2 => wipe σ2 vs = wipe σ vs ∧ tt σ2 H2 fun b H3 =>
      if b = true then te σ2 H3 fun y H4 => ∃ acc, H4 D = some (.lst acc) ∧ acc.length < sizeLine ∧ Pv D (i + 1) (upd H4 D (.lst (acc ++ [y]))) else Pv D (i + 1) H3) (hd : ∀ D H', H D = none → Pv D xs.length H' → Q (.ref D) H') : CompL (Itt K a) g tt te vs σ H Q :=
  fun D hD => lc_tup (Pv D) (h0 D hD) (fun i H' => hl D i H' hD) (fun i x H' => hs D i x H' hD) fun H' => hd D H' hD
/-- items that are reckoned and make nothing: the list of them -/
theorem comp_r_map {lo : Int} {n : Nat} (f : Nat → V) (hn : n < 100000)
    (hs : ∀ (i : Nat) H' (Qk : VK), i < n → Same H H' → Qk (f i) H' → g (.int (lo + i)) (wipe σ vs) H' fun σ2 H2 => wipe σ2 vs = wipe σ vs ∧ tt σ2 H2 fun b H3 => if b = true then te σ2 H3 Qk else False)
    (hd : ∀ D, H D = none → Q (.ref D) (upd H D (.lst ((List.range n).map f)))) (mt : ∀ σ H (R R' : Bool → Hp → Prop), (∀ b H', R b H' → R' b H') → tt σ H R → tt σ H R')
    (mg : ∀ v σ H (R R' : L2.St → Hp → Prop), (∀ σ' H', R σ' H' → R' σ' H') → g v σ H R → g v σ H R') : CompL (Itr lo n) g tt te vs σ H Q := by
  refine comp_r (fun D i H' => H' = upd H D (.lst ((List.range i).map f))) (fun D hD => rfl) (fun D i H' hD hi e => ?_) (fun D H' hD e => by rw [e]; exact hd D hD)
  subst e
  refine mg _ _ _ _ _ (fun σ2 H2 h => ⟨h.1, mt _ _ _ _ (fun b H3 h3 => ?_) h.2⟩) (hs i _ (fun y H4 => ∃ acc, H4 D = some (.lst acc) ∧ acc.length < sizeLine ∧ upd H4 D (.lst (acc ++ [y])) = upd H D (.lst ((List.range (i + 1)).map f))) hi (same_new hD) ?_)
  · cases b with
    | true => exact h3
    | false => exact h3.elim
  · refine ⟨_, upd_same, ?_, ?_⟩
    · rw [List.length_map, List.length_range]
      exact lt_size (by omega)
    · rw [upd_upd, List.range_succ, List.map_append]
      rfl
end
/-! ### where a reading is cut -/
def tSeqB (t u : TS) : TS := tSeq t u
theorem pss_consB {X : Cx} {st : Stmt} {rest : List Stmt} {t u : TS} (h1 : PS X st t) (h2 : PSs X rest u) : PSs X (st :: rest) (tSeqB t u) := pss_cons h1 h2
/-- the first part leads to what I tells, and what I tells is enough for the rest -/
theorem seq_by {t u : TS} {D : Ends} {σ : L2.St} {H : Hp} (I : L2.St → Hp → Prop) (h2 : ∀ σ' H', I σ' H' → u D σ' H') (h1 : ∀ k : L2.St → Hp → Prop, (∀ σ' H', I σ' H' → k σ' H') → t { D with nx := k } σ H) : tSeqB t u D σ H := h1 _ h2
/-! ### over any walk that the kit tells of -/
section
variable {J : It} {n : Nat} {G : Hp → Prop} {Y : Nat → Hp → V → Hp → Prop} {g : TG} {tb : TS} {D : Ends} {σ : L2.St} {H : Hp}
theorem loop_w (w : Walk J n G Y) (Pv : Nat → L2.St → Hp → Prop) (h0 : Pv 0 σ H) (hG : ∀ i σ H, i ≤ n → Pv i σ H → G H)
    (hs : ∀ i x σ H H', i < n → Pv i σ H → Y i H x H' → g x σ H' fun σ2 H2 => tb { D with nx := Pv (i + 1), ct := Pv (i + 1), bk := D.nx } σ2 H2) (hd : ∀ σ H, Pv n σ H → D.nx σ H) : Loop J g tb D σ H := for_it w Pv h0 hG hs hd
variable {tt : TT} {te : TE} {vs : List Nat} {Q : VK}
theorem comp_w (w : Walk J n G Y) (Pv : Addr → Nat → Hp → Prop) (h0 : ∀ D, H D = none → Pv D 0 (upd H D (.lst []))) (hG : ∀ D i H', H D = none → i ≤ n → Pv D i H' → G H')
    (hs : ∀ D i x H' H2, H D = none → i < n → Pv D i H' → Y i H' x H2 → g x (wipe σ vs) H2 fun σ2 H2 => wipe σ2 vs = wipe σ vs ∧ tt σ2 H2 fun b H3 =>
      if b = true then te σ2 H3 fun y H4 => ∃ acc, H4 D = some (.lst acc) ∧ acc.length < sizeLine ∧ Pv D (i + 1) (upd H4 D (.lst (acc ++ [y]))) else Pv D (i + 1) H3) (hd : ∀ D H', H D = none → Pv D n H' → Q (.ref D) H') : CompL J g tt te vs σ H Q :=
  fun D hD => lc_it w (Pv D) (h0 D hD) (fun i H' => hG D i H' hD) (fun i x H' H2 => hs D i x H' H2 hD) fun H' => hd D H' hD
end
end WK
/-! ## the mathematics of blocks and middles -/
namespace WK
theorem lo_iff {s lo i : Int} (hs : 0 < s) : (lo + s - 1) / s ≤ i ↔ lo ≤ i * s := by
  have h := Int.ediv_lt_iff_lt_mul (a := lo + s - 1) (b := i + 1) hs
  have e : (i + 1) * s = i * s + s := by rw [Int.add_mul, Int.one_mul]
  rw [e] at h
  constructor
  · intro z
    have := h.mp (by omega)
    omega
  · intro z
    have := h.mpr (by omega)
    omega
theorem hi_iff {s hi i : Int} (hs : 0 < s) : i + 1 ≤ (hi + 1) / s ↔ (i + 1) * s - 1 ≤ hi := by
  have h := Int.le_ediv_iff_mul_le (a := i + 1) (b := hi + 1) hs
  constructor
  · intro z
    have := h.mp z
    omega
  · intro z
    exact h.mpr (by omega)
/-- the blocks of size s that lie within lo .. hi -/
def blk (s lo hi : Int) : Int := if (hi + 1) / s - (lo + s - 1) / s > 0 then (hi + 1) / s - (lo + s - 1) / s else 0
/-- .. counted one by one -/
def cntB (s lo hi : Int) : Nat → Int
  | 0 => 0
  | i + 1 => cntB s lo hi i + (if (decide (lo ≤ (i : Int) * s) && decide (((i : Int) + 1) * s - 1 ≤ hi)) = true then 1 else 0)
theorem cntB_eq {s lo hi : Int} (hs : 0 < s) (h0 : 0 ≤ lo) : ∀ i : Nat, ∃ m c : Int, m = (if (i : Int) ≤ (hi + 1) / s then (i : Int) else (hi + 1) / s) ∧ c = (lo + s - 1) / s ∧ 0 ≤ c ∧ cntB s lo hi i = (if m - c > 0 then m - c else 0)
  | 0 => by
    have hc : 0 ≤ (lo + s - 1) / s := Int.ediv_nonneg (by omega) (by omega)
    refine ⟨_, _, rfl, rfl, hc, ?_⟩
    have q : ¬ (if ((0 : Nat) : Int) ≤ (hi + 1) / s then ((0 : Nat) : Int) else (hi + 1) / s) - (lo + s - 1) / s > 0 := by
      simp only [Int.natCast_zero]
      split <;> omega
    rw [if_neg q]
    rfl
  | i + 1 => by
    obtain ⟨m, c, em, ec, hc, e⟩ := cntB_eq hs h0 i
    refine ⟨_, c, rfl, ec, hc, ?_⟩
    have a1 := lo_iff (lo := lo) (i := (i : Int)) hs
    have a2 := hi_iff (hi := hi) (i := (i : Int)) hs
    rw [← ec] at a1
    generalize (hi + 1) / s = d at em a2 ⊢
    show cntB s lo hi i + _ = _
    rw [e, em]
    have e1 : ((i + 1 : Nat) : Int) = (i : Int) + 1 := Int.natCast_succ i
    rw [e1]
    by_cases b1 : lo ≤ (i : Int) * s
    · have b1' := a1.mpr b1
      by_cases b2 : ((i : Int) + 1) * s - 1 ≤ hi
      · have b2' := a2.mpr b2
        rw [if_pos (show (decide (lo ≤ (i : Int) * s) && decide (((i : Int) + 1) * s - 1 ≤ hi)) = true by rw [decide_eq_true b1, decide_eq_true b2]; rfl)]
        rw [if_pos (show (i : Int) ≤ d by omega), if_pos (show (i : Int) + 1 ≤ d by omega)]
        by_cases q : (i : Int) - c > 0
        · rw [if_pos q, if_pos (by omega)]
          omega
        · rw [if_neg q, if_pos (by omega)]
          omega
      · have b2' : ¬ (i : Int) + 1 ≤ d := fun z => b2 (a2.mp z)
        rw [if_neg (show ¬ (decide (lo ≤ (i : Int) * s) && decide (((i : Int) + 1) * s - 1 ≤ hi)) = true by rw [decide_eq_false b2, Bool.and_false]; exact Bool.false_ne_true)]
        rw [if_neg b2', Int.add_zero]
        by_cases q : (i : Int) ≤ d
        · rw [if_pos q]
          have : (i : Int) = d := by omega
          rw [this]
        · rw [if_neg q]
    · have b1' : ¬ c ≤ (i : Int) := fun z => b1 (a1.mp z)
      rw [if_neg (show ¬ (decide (lo ≤ (i : Int) * s) && decide (((i : Int) + 1) * s - 1 ≤ hi)) = true by rw [decide_eq_false b1, Bool.false_and]; exact Bool.false_ne_true), Int.add_zero]
      have q1 : ¬ (if (i : Int) ≤ d then (i : Int) else d) - c > 0 := by
        split <;> omega
      have q2 : ¬ (if (i : Int) + 1 ≤ d then (i : Int) + 1 else d) - c > 0 := by
        split <;> omega
      rw [if_neg q1, if_neg q2]
/-- all blocks of an axis are asked -/
theorem cntB_all {s lo hi : Int} {n : Nat} (hs : 0 < s) (h0 : 0 ≤ lo) (hn : hi < (n : Int) * s) : cntB s lo hi n = blk s lo hi := by
  obtain ⟨m, c, em, ec, hc, e⟩ := cntB_eq (hi := hi) hs h0 n
  have hd : (hi + 1) / s ≤ (n : Int) := by
    have := (Int.ediv_lt_iff_lt_mul (a := hi + 1) (b := (n : Int) + 1) hs).mpr (by rw [Int.add_mul, Int.one_mul]; omega)
    omega
  have em2 : m = (hi + 1) / s := by
    rw [em]
    split
    · omega
    · rfl
  rw [e, em2, ec] <;> rfl
/-- the middles of blocks of size 2 h within lo + 1 .. hi -/
def mid (h lo hi : Int) : Int := hi / h - lo / h - hi / (2 * h) + lo / (2 * h)
def cntM (h lo hi : Int) : Nat → Int
  | 0 => 0
  | i + 1 => cntM h lo hi i + (if (decide (lo < (i : Int) * (2 * h) + h) && decide ((i : Int) * (2 * h) + h ≤ hi)) = true then 1 else 0)
theorem mid_iff {h x i : Int} (hh : 0 < h) : i * (2 * h) + h ≤ x ↔ i < (x / h + 1) / 2 := by
  have a := Int.le_ediv_iff_mul_le (a := 2 * i + 1) (b := x) hh
  have e : (2 * i + 1) * h = i * (2 * h) + h := by rw [Int.add_mul, Int.one_mul, Int.mul_left_comm i 2 h, Int.mul_assoc]
  rw [e] at a
  rw [← a]
  generalize x / h = y
  omega
theorem mid_half {h x : Int} (hh : 0 < h) : x / h - x / (2 * h) = (x / h + 1) / 2 := by
  have e : x / (2 * h) = x / h / 2 := by
    rw [Int.mul_comm 2 h]
    exact (Int.ediv_ediv_of_nonneg (by omega)).symm
  rw [e]
  generalize x / h = y
  omega
theorem mid_eq {h lo hi : Int} (hh : 0 < h) : mid h lo hi = (hi / h + 1) / 2 - (lo / h + 1) / 2 := by
  rw [← mid_half (x := hi) hh, ← mid_half (x := lo) hh]
  unfold mid
  omega
theorem cntM_eq {h lo hi : Int} (hh : 0 < h) (hl : lo ≤ hi) : ∀ i : Nat, cntM h lo hi i = (if (i : Int) ≤ (hi / h + 1) / 2 then (i : Int) else (hi / h + 1) / 2) - (if (i : Int) ≤ (lo / h + 1) / 2 then (i : Int) else (lo / h + 1) / 2) ∨ (lo < 0)
  | 0 => by
    by_cases z : lo < 0
    · exact .inr z
    · left
      have l1 : 0 ≤ lo / h := Int.ediv_nonneg (by omega) (by omega)
      have l2 : 0 ≤ hi / h := Int.ediv_nonneg (by omega) (by omega)
      show (0 : Int) = _
      rw [if_pos (by simp only [Int.natCast_zero]; omega), if_pos (by simp only [Int.natCast_zero]; omega)]
      omega
  | i + 1 => by
    rcases cntM_eq hh hl i with e | z
    · left
      have a1 := mid_iff (x := lo) (i := (i : Int)) hh
      have a2 := mid_iff (x := hi) (i := (i : Int)) hh
      have l3 : lo / h ≤ hi / h := Int.ediv_le_ediv hh hl
      generalize lo / h = p at *
      generalize hi / h = q at *
      show cntM h lo hi i + _ = _
      have e1 : ((i + 1 : Nat) : Int) = (i : Int) + 1 := Int.natCast_succ i
      rw [e, e1]
      generalize (i : Int) * (2 * h) + h = y at *
      by_cases b1 : lo < y
      · by_cases b2 : y ≤ hi
        · rw [if_pos (show (decide (lo < y) && decide (y ≤ hi)) = true by rw [decide_eq_true b1, decide_eq_true b2]; rfl)]
          have c1 : ¬ (i : Int) < (p + 1) / 2 := fun z => by
            have := a1.mpr z
            omega
          have c2 := a2.mp b2
          rw [if_pos (show (i : Int) ≤ (q + 1) / 2 by omega), if_pos (show (i : Int) + 1 ≤ (q + 1) / 2 by omega)]
          rw [if_neg (show ¬ (i : Int) + 1 ≤ (p + 1) / 2 by omega)]
          split <;> omega
        · rw [if_neg (show ¬ (decide (lo < y) && decide (y ≤ hi)) = true by rw [decide_eq_false b2, Bool.and_false]; exact Bool.false_ne_true)]
          have c1 : ¬ (i : Int) < (p + 1) / 2 := fun z => by
            have := a1.mpr z
            omega
          have c2 : ¬ (i : Int) < (q + 1) / 2 := fun z => b2 (a2.mpr z)
          rw [if_neg (show ¬ (i : Int) + 1 ≤ (q + 1) / 2 by omega), if_neg (show ¬ (i : Int) + 1 ≤ (p + 1) / 2 by omega)]
          split <;> split <;> omega
      · rw [if_neg (show ¬ (decide (lo < y) && decide (y ≤ hi)) = true by rw [decide_eq_false b1, Bool.false_and]; exact Bool.false_ne_true)]
        have c1 := a1.mp (by omega)
        have c2 : (i : Int) < (q + 1) / 2 := by omega
        rw [if_pos (show (i : Int) + 1 ≤ (q + 1) / 2 by omega), if_pos (show (i : Int) + 1 ≤ (p + 1) / 2 by omega), if_pos (show (i : Int) ≤ (q + 1) / 2 by omega), if_pos (show (i : Int) ≤ (p + 1) / 2 by omega)]
        omega
    · exact .inr z
theorem cntM_all {h lo hi : Int} {n : Nat} (hh : 0 < h) (h0 : 0 ≤ lo) (hl : lo ≤ hi) (hn : hi < (n : Int) * (2 * h)) : cntM h lo hi n = mid h lo hi := by
  rcases cntM_eq hh hl n with e | z
  · have hd : (hi / h + 1) / 2 ≤ (n : Int) := by
      have a := mid_iff (x := hi) (i := (n : Int)) hh
      have : ¬ (n : Int) * (2 * h) + h ≤ hi := by omega
      have := fun z => this (a.mpr z)
      omega
    have l3 : lo / h ≤ hi / h := Int.ediv_le_ediv hh hl
    rw [e, mid_eq hh]
    have e1 : (if (n : Int) ≤ (hi / h + 1) / 2 then (n : Int) else (hi / h + 1) / 2) = (hi / h + 1) / 2 := by
      split <;> omega
    have e2 : (if (n : Int) ≤ (lo / h + 1) / 2 then (n : Int) else (lo / h + 1) / 2) = (lo / h + 1) / 2 := by
      split <;> omega
    rw [e1, e2]
  · omega
/-- more bits behind change nothing -/
theorem blk_wide {s lo hi m : Int} (hs : 0 < s) (hm : 0 < m) : blk (s * m) (lo * m) ((hi + 1) * m - 1) = blk s lo hi := by
  have e1 : ((hi + 1) * m - 1 + 1) / (s * m) = (hi + 1) / s := by
    rw [Int.sub_add_cancel]
    exact Int.mul_ediv_mul_of_pos_left _ _ hm
  have e2 : (lo * m + s * m - 1) / (s * m) = (lo + s - 1) / s := by
    have hsm : 0 < s * m := Int.mul_pos hs hm
    apply Int.le_antisymm
    · rw [lo_iff hsm]
      have := (lo_iff (lo := lo) (i := (lo + s - 1) / s) hs).mp (Int.le_refl _)
      rw [← Int.mul_assoc]
      exact Int.mul_le_mul_of_nonneg_right this (by omega)
    · rw [lo_iff hs]
      have := (lo_iff (lo := lo * m) (i := (lo * m + s * m - 1) / (s * m)) hsm).mp (Int.le_refl _)
      rw [← Int.mul_assoc] at this
      exact Int.le_of_mul_le_mul_right this hm
  unfold blk
  rw [e1, e2]
theorem mid_wide {h lo hi m : Int} (hh : 0 < h) (hm : 0 < m) : mid (h * m) (lo * m) ((hi + 1) * m - 1) = mid h lo hi := by
  have d : ∀ {t : Int}, 0 < t → ((hi + 1) * m - 1) / (t * m) = hi / t := fun {t} ht => by
    have htm : 0 < t * m := Int.mul_pos ht hm
    apply Int.le_antisymm
    · have a := (Int.le_ediv_iff_mul_le (a := ((hi + 1) * m - 1) / (t * m)) (b := (hi + 1) * m - 1) htm).mp (Int.le_refl _)
      rw [Int.le_ediv_iff_mul_le ht]
      rw [← Int.mul_assoc] at a
      have b : ((hi + 1) * m - 1) / (t * m) * t * m < (hi + 1) * m := by omega
      have := Int.lt_of_mul_lt_mul_right b (by omega)
      omega
    · rw [Int.le_ediv_iff_mul_le htm]
      have a := (Int.le_ediv_iff_mul_le (a := hi / t) (b := hi) ht).mp (Int.le_refl _)
      have b : hi / t * t * m ≤ hi * m := Int.mul_le_mul_of_nonneg_right a (by omega)
      rw [← Int.mul_assoc, Int.add_mul]
      omega
  unfold mid
  rw [d hh, Int.mul_ediv_mul_of_pos_left _ _ hm, ← Int.mul_assoc, d (by omega), Int.mul_ediv_mul_of_pos_left _ _ hm]
theorem step_div {s y : Int} (hs : 0 < s) : y / s - (y - 1) / s = if y % s = 0 then 1 else 0 := by
  have e := Int.mul_ediv_add_emod y s
  have r0 := Int.emod_nonneg y (show s ≠ 0 by omega)
  have r1 := Int.emod_lt_of_pos y hs
  rw [Int.mul_comm] at e
  generalize y / s = q at *
  generalize y % s = r at *
  have a1 : (y - 1) / s ≤ q := by
    have := (Int.ediv_lt_iff_lt_mul (a := y - 1) (b := q + 1) hs).mpr (by rw [Int.add_mul, Int.one_mul]; omega)
    omega
  have a2 : q - 1 ≤ (y - 1) / s := (Int.le_ediv_iff_mul_le hs).mpr (by rw [Int.sub_mul, Int.one_mul]; omega)
  split
  · have := (Int.ediv_lt_iff_lt_mul (a := y - 1) (b := q) hs).mpr (by omega)
    omega
  · have := (Int.le_ediv_iff_mul_le (a := q) (b := y - 1) hs).mpr (by omega)
    omega
theorem mid_f {h x : Int} (hh : 0 < h) : (x / h + 1) / 2 = (x + h) / (2 * h) := by
  rw [Int.mul_comm 2 h, ← Int.ediv_ediv_of_nonneg (by omega)]
  have := Int.add_mul_ediv_right x 1 (show h ≠ 0 by omega)
  rw [Int.one_mul] at this
  rw [this]
theorem mid_mod {h x : Int} (hh : 0 < h) : (x + h) % (2 * h) = 0 ↔ x % (2 * h) = h := by
  have e := Int.mul_ediv_add_emod x (2 * h)
  have r0 := Int.emod_nonneg x (show 2 * h ≠ 0 by omega)
  have r1 := Int.emod_lt_of_pos x (show 0 < 2 * h by omega)
  have e2 : (x + h) % (2 * h) = (x % (2 * h) + h) % (2 * h) := (Int.emod_add_emod x (2 * h) h).symm
  rw [e2]
  generalize x % (2 * h) = r at *
  by_cases z : r < h
  · rw [Int.emod_eq_of_lt (by omega) (by omega)]
    omega
  · have : (r + h) % (2 * h) = r - h := by
      have := Int.add_mul_emod_self_right (r - h) 1 (2 * h)
      rw [Int.one_mul, Int.emod_eq_of_lt (a := r - h) (by omega) (by omega)] at this
      rw [← this]
      congr 1
      omega
    rw [this]
    omega
theorem mid_at {h x : Int} (hh : 0 < h) : (x / h + 1) / 2 - ((x - 1) / h + 1) / 2 = if x % (2 * h) = h then 1 else 0 := by
  rw [mid_f hh, mid_f hh]
  have := step_div (y := x + h) (s := 2 * h) (by omega)
  rw [show x - 1 + h = x + h - 1 by omega, this]
  by_cases z : x % (2 * h) = h
  · rw [if_pos z, if_pos ((mid_mod hh).mpr z)]
  · rw [if_neg z, if_neg fun y => z ((mid_mod hh).mp y)]
theorem mid_left {h lo hi : Int} (hh : 0 < h) : mid h lo hi - mid h (lo + 1) hi = if (lo + 1) % (2 * h) = h then 1 else 0 := by
  rw [mid_eq hh, mid_eq hh, ← mid_at hh, show lo + 1 - 1 = lo by omega]
  omega
theorem mid_right {h lo hi : Int} (hh : 0 < h) : mid h lo (hi + 1) - mid h lo hi = if (hi + 1) % (2 * h) = h then 1 else 0 := by
  rw [mid_eq hh, mid_eq hh, ← mid_at hh, show hi + 1 - 1 = hi by omega]
  omega
theorem mid_cut {h lo sp hi : Int} : mid h lo sp + mid h sp hi = mid h lo hi := by
  unfold mid
  omega
theorem blk_right {s lo hi : Int} (hs : 0 < s) : blk s lo (hi + 1) - blk s lo hi = if (hi + 2) % s = 0 ∧ lo ≤ hi + 2 - s then 1 else 0 := by
  have d := step_div (y := hi + 2) hs
  have e := Int.mul_ediv_add_emod (hi + 2) s
  rw [Int.mul_comm] at e
  have l := lo_iff (lo := lo) (i := (hi + 2) / s - 1) hs
  rw [Int.sub_mul, Int.one_mul] at l
  unfold blk
  rw [show hi + 1 + 1 = hi + 2 by omega]
  rw [show hi + 2 - 1 = hi + 1 by omega] at d
  generalize (hi + 2) / s * s = qs at *
  generalize (hi + 2) / s = q at *
  generalize (hi + 1) / s = q1 at *
  generalize (lo + s - 1) / s = c at *
  by_cases z : (hi + 2) % s = 0
  · rw [if_pos z] at d
    rw [z] at e
    by_cases y : lo ≤ hi + 2 - s
    · have := l.mpr (by omega)
      rw [show (if (hi + 2) % s = 0 ∧ lo ≤ hi + 2 - s then 1 else 0 : Int) = 1 from if_pos ⟨z, y⟩]
      split <;> split <;> omega
    · have := fun w => y (by have := l.mp w; omega)
      rw [show (if (hi + 2) % s = 0 ∧ lo ≤ hi + 2 - s then 1 else 0 : Int) = 0 from if_neg fun w => y w.2]
      split <;> split <;> omega
  · rw [if_neg z] at d
    rw [show (if (hi + 2) % s = 0 ∧ lo ≤ hi + 2 - s then 1 else 0 : Int) = 0 from if_neg fun w => z w.1]
    split <;> split <;> omega
theorem blk_first {s lo hi : Int} (hs : 0 < s) : (if (hi + 1 - (lo + (0 - lo) % s)) / s > 0 then (hi + 1 - (lo + (0 - lo) % s)) / s else 0) = blk s lo hi := by
  have e := Int.mul_ediv_add_emod (0 - lo) s
  have r0 := Int.emod_nonneg (0 - lo) (show s ≠ 0 by omega)
  have r1 := Int.emod_lt_of_pos (0 - lo) hs
  have ec : lo + (0 - lo) % s = (lo + s - 1) / s * s := by
    have a1 := lo_iff (lo := lo) (i := (lo + s - 1) / s) hs
    have a2 := lo_iff (lo := lo) (i := -((0 - lo) / s)) hs
    have a3 := lo_iff (lo := lo) (i := -((0 - lo) / s) - 1) hs
    rw [Int.sub_mul, Int.one_mul] at a3
    rw [Int.neg_mul] at a2 a3
    rw [Int.mul_comm] at e
    have b2 := a2.mpr (by omega)
    have b3 : ¬ (lo + s - 1) / s ≤ -((0 - lo) / s) - 1 := fun z => by
      have := a3.mp z
      omega
    have : (lo + s - 1) / s = -((0 - lo) / s) := by omega
    rw [this, Int.neg_mul]
    omega
  rw [ec]
  have : (hi + 1 - (lo + s - 1) / s * s) / s = (hi + 1) / s - (lo + s - 1) / s := by
    have := Int.add_mul_ediv_right (hi + 1) (-((lo + s - 1) / s)) (show s ≠ 0 by omega)
    rw [Int.neg_mul] at this
    rw [Int.sub_eq_add_neg, this]
    omega
  rw [this]
  rfl
theorem blk_one {lo hi : Int} (h : lo ≤ hi) : blk 1 lo hi = hi - lo + 1 := by
  unfold blk
  rw [Int.ediv_one, Int.ediv_one]
  split <;> omega
end WK
/-! ## the text of data -/
namespace WK
open PySem PySem.Spec PyProof.Rows L2
structure DOk (h n : Nat) (d : PyData) : Prop where
  sh : d.showable = true
  nd : d.hasDict = false
  dp : d.depth ≤ h
  ln : d.shown.length ≤ n
theorem DOk.mono {h n h' n' : Nat} {d : PyData} (x : DOk h n d) (a : h ≤ h') (b : n ≤ n') : DOk h' n' d := ⟨x.sh, x.nd, Nat.le_trans x.dp a, Nat.le_trans x.ln b⟩
theorem DOk.int {i : Int} {k : Nat} (h : i.natAbs < 2 ^ k) (h0 : 0 < k) (hk : k ≤ 1900) : DOk 0 (k + 1) (.int i) := by
  refine ⟨?_, rfl, Nat.le_refl _, ?_⟩
  · show decide (i.natAbs.log2 < 1920) = true
    apply decide_eq_true
    by_cases z : i.natAbs = 0
    · rw [z]
      decide
    · have := (Nat.log2_lt z).mpr h
      omega
  · show (Str.ofString (toString i)).length ≤ _
    rw [PySem.ofString_length]
    exact int_text_length_le10 h0 (Nat.lt_of_lt_of_le h (Nat.pow_le_pow_left (by decide) k))
theorem DOk.bool {b : Bool} : DOk 0 5 (.bool b) := ⟨rfl, rfl, Nat.le_refl _, by cases b <;> decide⟩
theorem DOk.none : DOk 0 5 .none := ⟨rfl, rfl, Nat.le_refl _, by decide⟩
theorem dok_all {h n : Nat} : ∀ {ds : List PyData}, (∀ d ∈ ds, DOk h n d) → PyData.showableAll ds = true ∧ PyData.hasDictAll ds = false ∧ PyData.depthAll ds ≤ h ∧ ((PyData.shownAll ds).map (·.length)).sum ≤ ds.length * n ∧ (PyData.shownAll ds).length = ds.length
  | [], _ => ⟨rfl, rfl, Nat.zero_le _, by simp [PyData.shownAll], rfl⟩
  | d :: ds, H => by
    obtain ⟨a, b, c, e, f⟩ := dok_all (ds := ds) fun x hx => H x (List.mem_cons_of_mem _ hx)
    obtain ⟨a1, b1, c1, e1⟩ := H d List.mem_cons_self
    refine ⟨by rw [PyData.showableAll, a1, a]; rfl, by rw [PyData.hasDictAll, b1, b]; rfl, ?_, ?_, ?_⟩
    · rw [PyData.depthAll]
      exact Nat.max_le.mpr ⟨c1, c⟩
    · simp only [PyData.shownAll, List.map_cons, List.sum_cons, List.length_cons, Nat.succ_mul]
      omega
    · simp only [PyData.shownAll, List.length_cons, f]
theorem DOk.list {h n : Nat} {ds : List PyData} (H : ∀ d ∈ ds, DOk h n d) : DOk (h + 1) (ds.length * (n + 2) + 3) (.list ds) := by
  obtain ⟨a, b, c, e, f⟩ := dok_all H
  refine ⟨by rw [PyData.showable]; exact a, by rw [PyData.hasDict]; exact b, by rw [PyData.depth]; omega, ?_⟩
  rw [PyData.shown]
  have := listText_len_le (PyData.shownAll ds)
  rw [f] at this
  rw [Nat.mul_add]
  omega
theorem DOk.tuple {h n : Nat} {ds : List PyData} (H : ∀ d ∈ ds, DOk h n d) : DOk (h + 1) (ds.length * (n + 2) + 3) (.tuple ds) := by
  obtain ⟨a, b, c, e, f⟩ := dok_all H
  refine ⟨by rw [PyData.showable]; exact a, by rw [PyData.hasDict]; exact b, by rw [PyData.depth]; omega, ?_⟩
  rw [PyData.shown]
  have := tupleText_len_le (PyData.shownAll ds)
  rw [f] at this
  rw [Nat.mul_add]
  omega
theorem DOk.str {x : Str} (hx : ∀ c ∈ x.cps.toList, c < 16 ^ 8) : DOk 0 (x.length * 10 + 2) (.str x) := by
  refine ⟨rfl, rfl, Nat.le_refl _, ?_⟩
  have e := PySem.StrLaws.reprText_len x hx
  rw [PyData.shown]
  have e2 : x.length = x.cps.size := rfl
  omega
theorem DOk.ints {k : Nat} {ns : List Int} (h : ∀ i ∈ ns, i.natAbs < 2 ^ k) (h0 : 0 < k) (hk : k ≤ 1900) : DOk 1 (ns.length * (k + 3) + 3) (.list (ns.map .int)) := by
  have := DOk.list (ds := ns.map .int) (h := 0) (n := k + 1) fun d hd => by
    obtain ⟨i, hi, rfl⟩ := List.mem_map.mp hd
    exact DOk.int (h i hi) h0 hk
  rw [List.length_map] at this
  exact this
theorem repr_do {K : PySem.W.Frag} {x : V} {d : PyData} {H : Hp} {Q : VK} {h n : Nat} (a : Dp K H x d) (b : DOk h n d) (c : h ≤ 60) (e : n ≤ 100000) (q : Q (.str d.shown) H) : rRepr K [x] H Q :=
  ⟨x, d, rfl, a, b.sh, b.nd, Nat.le_trans b.dp c, Nat.le_trans b.ln (le_size e), q⟩
theorem dp_ints {K : PySem.W.Frag} {H : Hp} : ∀ ns : List Int, DpAll K H (ns.map V.int) (ns.map .int)
  | [] => .nil
  | n :: ns => .cons (.int n) (dp_ints ns)
theorem shaped_all0 : ∀ ns : List Int, PyData.canLayAll0 (ns.map .int) = true ∧ PyData.depthAll (ns.map .int) = 0
  | [] => ⟨rfl, rfl⟩
  | n :: ns => by
    obtain ⟨a, b⟩ := shaped_all0 ns
    exact ⟨by simp only [List.map_cons, PyData.canLayAll0, PyData.canLay0, a, Bool.and_self], by simp only [List.map_cons, PyData.depthAll, PyData.depth, b, Nat.max_self]⟩
theorem eqv_ints : ∀ ns : List Int, PyData.eqvAll (ns.map .int) (ns.map .int) = true
  | [] => rfl
  | n :: ns => by
    rw [List.map_cons, PyData.eqvAll, PyData.eqv, eqv_ints ns]
    simp
/-- data that can be compared -/
structure LOk (h : Nat) (d : PyData) : Prop where
  lay : d.canLay0 = true
  dp : d.depth ≤ h
theorem LOk.mono {h h' : Nat} {d : PyData} (x : LOk h d) (a : h ≤ h') : LOk h' d := ⟨x.lay, Nat.le_trans x.dp a⟩
theorem LOk.int {i : Int} : LOk 0 (.int i) := ⟨rfl, Nat.le_refl _⟩
theorem LOk.bool {b : Bool} : LOk 0 (.bool b) := ⟨rfl, Nat.le_refl _⟩
theorem LOk.none : LOk 0 .none := ⟨rfl, Nat.le_refl _⟩
theorem lok_all {h : Nat} : ∀ {ds : List PyData}, (∀ d ∈ ds, LOk h d) → PyData.canLayAll0 ds = true ∧ PyData.depthAll ds ≤ h
  | [], _ => ⟨rfl, Nat.zero_le _⟩
  | d :: ds, H => by
    obtain ⟨a, b⟩ := lok_all (ds := ds) fun x hx => H x (List.mem_cons_of_mem _ hx)
    have h1 := H d List.mem_cons_self
    exact ⟨by rw [PyData.canLayAll0, h1.lay, a]; rfl, by rw [PyData.depthAll]; exact Nat.max_le.mpr ⟨h1.dp, b⟩⟩
theorem LOk.list {h : Nat} {ds : List PyData} (H : ∀ d ∈ ds, LOk h d) : LOk (h + 1) (.list ds) := by
  obtain ⟨a, b⟩ := lok_all H
  exact ⟨by rw [PyData.canLay0]; exact a, by rw [PyData.depth]; omega⟩
theorem LOk.tuple {h : Nat} {ds : List PyData} (H : ∀ d ∈ ds, LOk h d) : LOk (h + 1) (.tuple ds) := by
  obtain ⟨a, b⟩ := lok_all H
  exact ⟨by rw [PyData.canLay0]; exact a, by rw [PyData.depth]; omega⟩
theorem LOk.ints {ns : List Int} : LOk 1 (.list (ns.map .int)) := LOk.list fun d hd => by
  obtain ⟨i, _, rfl⟩ := List.mem_map.mp hd
  exact LOk.int
theorem LOk.intsT {ns : List Int} : LOk 1 (.tuple (ns.map .int)) := LOk.tuple fun d hd => by
  obtain ⟨i, _, rfl⟩ := List.mem_map.mp hd
  exact LOk.int
theorem LOk.shaped {h : Nat} {d : PyData} (x : LOk h d) (l : h ≤ 64 := by decide) : SeqAt.shaped d = true := by
  have := x.dp
  unfold SeqAt.shaped
  rw [x.lay, decide_eq_true (show d.depth ≤ 64 by omega)]
  rfl
/-- both are the same data -/
theorem eq_same {K : PySem.W.Frag} {x y : V} {d : PyData} {h : Nat} {H : Hp} {Q : VK} (hx : Dp K H x d) (hy : Dp K H y d) (l : LOk h d) (q : Q (.bl true) H) (hh : h ≤ 64 := by decide) : rEqD K x y H Q := by
  refine ⟨d, d, hx, hy, l.shaped hh, l.shaped hh, ?_⟩
  rw [PySem.SeqAt.eqv_refl d l.lay]
  exact q
theorem ne_same {K : PySem.W.Frag} {x y : V} {d : PyData} {h : Nat} {H : Hp} {Q : VK} (hx : Dp K H x d) (hy : Dp K H y d) (l : LOk h d) (q : Q (.bl false) H) (hh : h ≤ 64 := by decide) : rNeD K x y H Q := by
  refine ⟨d, d, hx, hy, l.shaped hh, l.shaped hh, ?_⟩
  rw [PySem.SeqAt.eqv_refl d l.lay]
  exact q
theorem dp_lst {K : PySem.W.Frag} {H : Hp} {a : Addr} {ns : List Int} (h : SqL K H a (ns.map V.int)) : Dp K H (.ref a) (.list (ns.map .int)) := .lst h (dp_ints ns)
theorem dp_tup {K : PySem.W.Frag} {H : Hp} {a : Addr} {ns : List Int} (h : SqT K H a (ns.map V.int)) : Dp K H (.ref a) (.tuple (ns.map .int)) := .tup h (dp_ints ns)
theorem DOk.intsT {k : Nat} {ns : List Int} (h : ∀ i ∈ ns, i.natAbs < 2 ^ k) (h0 : 0 < k) (hk : k ≤ 1900) : DOk 1 (ns.length * (k + 3) + 3) (.tuple (ns.map .int)) := by
  have := DOk.tuple (ds := ns.map .int) (h := 0) (n := k + 1) fun d hd => by
    obtain ⟨i, hi, rfl⟩ := List.mem_map.mp hd
    exact DOk.int (h i hi) h0 hk
  rw [List.length_map] at this
  exact this
end WK
/-! ## what the head hands over: facts, own checks, defs at reckoned places -/
namespace WK
open PySem PySem.Spec PyProof.Rows L2
def gpa (K : PySem.W.Frag) (C : Addr) (f : Str) : Addr := match PySem.W.recIn K (He.ma K C f) "property" with
  | some (.ref g :: _) => g
  | _ => 0
def propB (C f : Str) (K : PySem.W.Frag) : Bool :=
  decide (PySem.W.findIn K (.ref (He.ga K C)) f = some (some (.ref (He.ma K (He.ga K C) f)))) &&
  (decide (PySem.W.specialIn K (.ref (He.ma K (He.ga K C) f)) "__get__" = some (some (.builtin "property.__get__"))) &&
  (decide (PySem.W.takesIn K (.ref (He.ma K (He.ga K C) f)) = some true) &&
  (match PySem.W.recIn K (He.ma K (He.ga K C) f) "property" with
  | some (.ref _ :: _) => true
  | _ => false)))
theorem propB_ok {K : PySem.W.Frag} {C f : Str} (h : propB C f K = true) : PropOf K (He.ga K C) f (He.ma K (He.ga K C) f) (gpa K (He.ga K C) f) := by
  unfold propB at h
  simp only [Bool.and_eq_true, decide_eq_true_eq] at h
  obtain ⟨h1, h2, h3, h4⟩ := h
  refine ⟨h1, h2, h3, ?_⟩
  unfold gpa
  split at h4
  · rename_i g r e
    rw [e]
    exact ⟨r, rfl⟩
  · cases h4
/-- a def where it stands -/
structure DefA where
  pl : PySem.W.Frag → Addr
  d : He.DefD
def seenA (K : PySem.W.Frag) (a : Addr) : He.FnW := match K.lookup a with
  | none => none
  | some z => match z.data with
    | .func u => some (u.name, u.qualname, u.params, u.body, u.scope, u.globals, u.closure, u.builtins)
    | _ => none
def goodA (K : PySem.W.Frag) (a : Addr) (d : He.DefD) : Bool := match K.lookup a with
  | none => false
  | some z => match z.data with
    | .func u => PySem.W.keepIn K (.ref a) && (PySem.W.codeIn K u.code d.qual && (He.dflB K u.defaults (d.dvs K) && He.kwdB K u.kwdefaults (d.kws K)))
    | _ => false
theorem funA {K : PySem.W.Frag} {a : Addr} {d : He.DefD} (e : seenA K a = d.val) (c : goodA K a d = true) : ∃ fd, FunD K d.name d.qual d.params d.body d.scope (d.dvs K) (d.kws K) a fd := by
  unfold seenA at e
  unfold goodA at c
  cases q : K.lookup a with
  | none =>
    rw [q] at c
    exact absurd c Bool.false_ne_true
  | some z =>
    obtain ⟨zc, zd, zt, zs⟩ := z
    rw [q] at c e
    cases zt with
    | func u =>
      simp only [Bool.and_eq_true] at c
      obtain ⟨c1, c2, c3, c4⟩ := c
      cases u
      simp only [He.DefD.val, Option.some.injEq, Prod.mk.injEq] at e
      obtain ⟨e1, e2, e3, e4, e5, e6, e7, e8⟩ := e
      subst e1 e2 e3 e4 e5 e6 e7 e8
      exact ⟨_, ⟨zc, zd, _, _, _, _, _, _, _, zs, rfl, q, c2, He.dflB_ok c3, He.kwdB_ok c4⟩, c1⟩
    | _ => exact absurd c Bool.false_ne_true
def obsA (fa : List He.Fa) (ex : List (PySem.W.Frag → Bool)) (fn : List DefA) (K : PySem.W.Frag) : He.AlD :=
  (fa.all (He.Fa.ok K) && (ex.all (fun f => f K) && fn.all fun x => goodA K (x.pl K) x.d), fn.map fun x => seenA K (x.pl K))
def wantA (fn : List DefA) : He.AlD := (true, fn.map fun x => x.d.val)
def SaysA (fa : List He.Fa) (ex : List (PySem.W.Frag → Bool)) (fn : List DefA) (K : PySem.W.Frag) : Prop := obsA fa ex fn K = wantA fn
def obsAG (n : Nat) (fa : List He.Fa) (ex : List (PySem.W.Frag → Bool)) (fn : List DefA) (g : Addr → Option Obj) : He.AlD := obsA fa ex fn (He.frG g (He.asD g n))
def hookA (n : Nat) (fa : List He.Fa) (ex : List (PySem.W.Frag → Bool)) (fn : List DefA) : PySem.W.Hook where
  α := He.AlD
  obs s := obsAG n fa ex fn s.heap.get?
  val _ := wantA fn
  says _ h := ∃ K : PySem.W.Frag, K.In h ∧ SaysA fa ex fn K
  of _ _ e := ⟨_, He.frG_in, e⟩
  keeps _ _ _ := fun ⟨K, hK, c⟩ k => ⟨K, PySem.W.Frag.In.keeps hK k, c⟩
theorem obsAG_eq {n : Nat} {fa : List He.Fa} {ex : List (PySem.W.Frag → Bool)} {fn : List DefA} {g : Addr → Option Obj} {s : Shared} (h : ∀ a, g a = s.heap.get? a) : obsAG n fa ex fn g = (hookA n fa ex fn).obs s := by
  have := funext h
  subst this
  rfl
section
variable {fa : List He.Fa} {ex : List (PySem.W.Frag → Bool)} {fn : List DefA} {K : PySem.W.Frag}
theorem SaysA.all (c : SaysA fa ex fn K) : fa.all (He.Fa.ok K) = true ∧ ex.all (fun f => f K) = true ∧ (fn.all fun x => goodA K (x.pl K) x.d) = true := by
  have h := congrArg Prod.fst c
  simp only [obsA, wantA, Bool.and_eq_true] at h
  exact h
theorem SaysA.fact (c : SaysA fa ex fn K) (i : Nat) {f : He.Fa} (h : fa[i]? = some f := by rfl) : f.ok K = true := List.all_eq_true.mp c.all.1 f (List.mem_of_getElem? h)
theorem SaysA.own (c : SaysA fa ex fn K) (i : Nat) {f : PySem.W.Frag → Bool} (h : ex[i]? = some f := by rfl) : f K = true := List.all_eq_true.mp c.all.2.1 f (List.mem_of_getElem? h)
theorem SaysA.df (c : SaysA fa ex fn K) (i : Nat) {x : DefA} (h : fn[i]? = some x := by rfl) : ∃ fd, FunD K x.d.name x.d.qual x.d.params x.d.body x.d.scope (x.d.dvs K) (x.d.kws K) (x.pl K) fd := by
  have e : (fn.map fun x => seenA K (x.pl K)) = fn.map fun x => x.d.val := congrArg Prod.snd c
  have e2 := congrArg (fun l => l[i]?) e
  simp only [List.getElem?_map, h, Option.map_some, Option.some.injEq] at e2
  exact funA e2 (List.all_eq_true.mp c.all.2.2 x (List.mem_of_getElem? h))
end
end WK
namespace WK
open PySem PySem.Spec PyProof.Rows L2
/-- what isinstance asks of an own class -/
structure IsC (K : PySem.W.Frag) (C : Addr) : Prop where
  ha : PySem.W.findIn K (.ref C) "__class__" = some (some (.builtin "object.__class__"))
  hn : PySem.W.specialIn K (.builtin "object.__class__") "__get__" = some (some (.builtin "getset_descriptor.__get__"))
  ht : PySem.W.takesIn K (.builtin "object.__class__") = some true
  hm : PySem.W.mroIn K C (.type "object") = some true
  nt : (["int", "bool", "str", "tuple", "list"].all fun n => PySem.W.kitOne K (.ref C) (.type n) == some false) = true
def isB (C : Str) (K : PySem.W.Frag) : Bool :=
  decide (PySem.W.findIn K (.ref (He.ga K C)) "__class__" = some (some (.builtin "object.__class__"))) && (decide (PySem.W.specialIn K (.builtin "object.__class__") "__get__" = some (some (.builtin "getset_descriptor.__get__"))) &&
  (decide (PySem.W.takesIn K (.builtin "object.__class__") = some true) && (decide (PySem.W.mroIn K (He.ga K C) (.type "object") = some true) && (["int", "bool", "str", "tuple", "list"].all fun n => PySem.W.kitOne K (.ref (He.ga K C)) (.type n) == some false))))
theorem isB_ok {K : PySem.W.Frag} {C : Str} (h : isB C K = true) : IsC K (He.ga K C) := by
  unfold isB at h
  rw [Bool.and_eq_true, Bool.and_eq_true, Bool.and_eq_true, Bool.and_eq_true, decide_eq_true_eq, decide_eq_true_eq, decide_eq_true_eq, decide_eq_true_eq] at h
  exact ⟨h.1, h.2.1, h.2.2.1, h.2.2.2.1, h.2.2.2.2⟩
theorem IsC.no {K : PySem.W.Frag} {C : Addr} (i : IsC K C) {n : String} (h : n = "int" ∨ n = "bool" ∨ n = "str" ∨ n = "tuple" ∨ n = "list") : PySem.W.kitOne K (.ref C) (.type n) = some false := by
  have := List.all_eq_true.mp i.nt n (by rcases h with rfl | rfl | rfl | rfl | rfl <;> decide)
  exact beq_iff_eq.mp this
theorem IsC.ty {K : PySem.W.Frag} {C a dx : Addr} {H : Hp} {fs : List (Str × V)} (i : IsC K C) (c : Cls K C) (e : H a = some (.ins C dx fs)) : TyX K H (.ref a) (.ref C) := .base (.ins e c i.ha i.hn i.ht i.hm)
theorem kit_own {K : PySem.W.Frag} {C : Addr} : PySem.W.kitOne K (.ref C) (.ref C) = some true := by
  unfold PySem.W.kitOne
  rw [if_pos (by simp)]
end WK
/-! ## own classes, and more rules with the written part told apart -/
namespace WK
open PySem PySem.Spec PyProof.Rows L2
/-- a def at a place that keeps a promise -/
structure OkM (P : Program) (w : World) (K : PySem.W.Frag) (mg : Str → Option Value) (base : Heap) (C : CXT) (k : Nat) (a : Addr) (ps : List Str) (sp : Sp) : Prop where
  ex : ∃ fd, FnOk P w K mg base C k a fd ps sp ∧ Binds K fd ps []
theorem OkM.mk' {P : Program} {w : World} {K : PySem.W.Frag} {mg : Str → Option Value} {base : Heap} {C : CXT} {k : Nat} {x q : Str} {a : Addr} {N ps : List Str} {st : Stmt} {sp : Sp}
    (F : ∃ fd, FunD K x q (defArgs st) (defBody st) (defScope st) [] [] a fd) (S : FnScope N ps (defScope st)) (len : ∀ vs H Q E, sp vs H Q E → vs.length = ps.length)
    (hb : ∀ (kV doc pm : Value) (an : Option Addr) (cdv ct : Value) (us : List Value), us.length = ps.length → bindArgs (PySem.W.fnOf x q (defArgs st) (defBody st) (defScope st) .none kV doc pm an cdv ct) ⟨us, []⟩ = pure (ps.zip us))
    (go : ∀ (f : Addr) (cdv : Value) (A : Around) (outer : List Env) (s : Shared) (H : Hp) (vs : List V) (Q : VK) (E : XK), Room k (A.deeper (envOfC q (defScope st) s.heap.objs.size f cdv)) → sp vs H Q E →
      ∃ t, PSs (cxOf C P w K mg base N q (defScope st) f cdv A outer s H E) (defBody st) t ∧ t { nx := fun _ H' => Q .non H', rt := Q } (start N vs) H) : OkM P w K mg base C (k + 1) a ps sp :=
  let ⟨_, F⟩ := F
  ⟨⟨_, F.ok S len fun cdv A outer s H vs Q E => go _ cdv A outer s H vs Q E, F.bindsN hb⟩⟩
theorem OkM.mk0 {P : Program} {w : World} {K : PySem.W.Frag} {mg : Str → Option Value} {base : Heap} {k : Nat} {x q : Str} {a : Addr} {N ps : List Str} {st : Stmt} {sp : Sp}
    (F : ∃ fd, FunD K x q (defArgs st) (defBody st) (defScope st) [] [] a fd) (S : FnScope N ps (defScope st)) (len : ∀ vs H Q E, sp vs H Q E → vs.length = ps.length)
    (hb : ∀ (kV doc pm : Value) (an : Option Addr) (cdv ct : Value) (us : List Value), us.length = ps.length → bindArgs (PySem.W.fnOf x q (defArgs st) (defBody st) (defScope st) .none kV doc pm an cdv ct) ⟨us, []⟩ = pure (ps.zip us))
    (go : ∀ (f : Addr) (cdv : Value) (A : Around) (outer : List Env) (s : Shared) (H : Hp) (vs : List V) (Q : VK) (E : XK), Room k (A.deeper (envOfC q (defScope st) s.heap.objs.size f cdv)) → sp vs H Q E →
      ∃ t, PSs (cxOf CX0 P w K mg base N q (defScope st) f cdv A outer s H E).nox (defBody st) t ∧ t { nx := fun _ H' => Q .non H', rt := Q } (start N vs) H) : OkM P w K mg base CX0 (k + 1) a ps sp :=
  OkM.mk' F S len hb fun f cdv A outer s H vs Q E hr h =>
    let ⟨t, h1, h2⟩ := go f cdv A outer s H vs Q E hr h
    ⟨t, h1.nox, h2⟩
def tMk (C : Addr) (sp : Sp) (E : XK) (t : TA) : TE := fun σ H Q => t σ H fun vs H1 => ∀ x dx, H1 x = none → H1 dx = none → dx ≠ x → sp (.ref x :: vs) (upd (upd H1 dx (.own x)) x (.ins C dx [])) (fun v H2 => v = .non ∧ Q (.ref x) H2) E
def tPrp (C : Addr) (sp : Sp) (E : XK) (ta : TE) : TE := fun σ H Q => ta σ H fun x H1 => ∃ a dx fs, x = .ref a ∧ H1 a = some (.ins C dx fs) ∧ sp [.ref a] H1 Q E
def tMt (C : Addr) (m : Str) (sp : Sp) (E : XK) (ta : TE) (t : TA) : TE := fun σ H Q => ta σ H fun x H1 => ∃ a dx fs, x = .ref a ∧ H1 a = some (.ins C dx fs) ∧ fs.lookup m = none ∧ t σ H1 fun vs H2 => sp (.ref a :: vs) H2 Q E
section
variable {X : Cx} {k j : Nat} {C f p : Addr} {ps : List Str} {sp : Sp} {x m : Str} {np pos apos : Pos} {e o : Expr} {es : List Expr} {t : TA} {ta : TE}
theorem mkO (O : OkM X.prog X.w X.K X.mg X.base CX0 k f ps sp) (M : Mk X.K C f) (hm : X.mg x = some (.ref C)) (hr : Room j X.A) (ha : PA X (e :: es) t) (hj : k + 1 ≤ j := by first | decide | omega) (hg : Gl X x := by rfl) (hdb : (x == ("__debug__" : Str)) = false := by decide)
    (he : starEach (e :: es) X.env = (false, eval e X.env) :: starEach es X.env := by rfl) (hpl : (backTo pos (starEach es X.env)).any (·.1) = false := by rfl) : PE X (.Call (.Name x np) (e :: es) [] pos) (tMk C sp E0 t) := by
  obtain ⟨fd, F, B⟩ := O.ex
  have r := pe_make (p := np) (dvs := []) M F (hr.mono hj) hg hm B .nil pass0 ha hdb he hpl
  refine ⟨fun pins s σ H Q I h => r.run pins s σ H Q I ?_⟩
  unfold tMake
  simp only [List.append_nil]
  exact h
theorem prO (O : OkM X.prog X.w X.K X.mg X.base CX0 k f ps sp) (c : Cls X.K C) (hp : PropOf X.K C m p f) (hr : Room j X.A) (he : PE X o ta) (hj : k + 1 ≤ j := by first | decide | omega) (hab : attributeBase o m X.env (eval o X.env) = eval o X.env := by rfl) : PE X (.Attribute o m pos) (tPrp C sp E0 ta) := by
  obtain ⟨fd, F, B⟩ := O.ex
  exact pe_prop (dvs := []) he c hp F (hr.mono hj) B .nil pass0 hab
theorem pe_dead {X : Cx} {e : Expr} : PE X e (fun _ _ _ => False) := ⟨fun _ _ _ _ _ _ h => h.elim⟩
/-! ### rules, the written part told apart -/
theorem fldK (K : PySem.W.Frag) (he : PE X o ta) (h : X.K = K := by rfl) (hb : attributeBase o m X.env (eval o X.env) = eval o X.env := by rfl) : PE X (.Attribute o m pos) (tFld K ta m) := by
  subst h
  exact pe_fld he hb
theorem sfldK (K : PySem.W.Frag) {value : Expr} {tv : TE} {pos' : Pos} (ha : PE X o ta) (hv : PE X value tv) (h : X.K = K := by rfl) (hs : swapsWith value (some (.Attribute o m pos')) pos.line X.env = pure false := by rfl) : PS X (.Assign [.Attribute o m pos'] value pos) (sFld K ta tv m) := by
  subst h
  exact ps_fld ha hv hs
def rListU (K : PySem.W.Frag) : List V → Hp → VK → Prop := fun xs H Q => ∃ p ys, xs = [.ref p] ∧ (SqL K H p ys ∨ SqT K H p ys) ∧ ∀ l, H l = none → Q (.ref l) (upd H l (.lst ys))
theorem listOf (K : PySem.W.Frag) (h : X.K = K := by rfl) : CallR X (.type "list") (rListU K) := by
  subst h
  exact call_list_of
def rTupU (K : PySem.W.Frag) : List V → Hp → VK → Prop := fun xs H Q => ∃ p ys, xs = [.ref p] ∧ SqL K H p ys ∧ ∀ l, H l = none → Q (.ref l) (upd H l (.tup ys))
theorem tupleOf (K : PySem.W.Frag) (h : X.K = K := by rfl) : CallR X (.type "tuple") (rTupU K) := by
  subst h
  exact fun pins s σ H xs us Q I r h => call_tuple_of pins s σ H xs us Q I r (let ⟨p, ys, e, h1, h2⟩ := h; ⟨p, ys, e, .inl ⟨h1, h2⟩⟩)
theorem catT (K : PySem.W.Frag) (h : X.K = K := by rfl) : OpR X (binaryOp .Add) (rCatT K) := by
  subst h
  exact op_catT
theorem slT (K : PySem.W.Frag) (h : X.K = K := by rfl) : SlR X (rSlT K) := by
  subst h
  exact sl_tup
theorem slL (K : PySem.W.Frag) (h : X.K = K := by rfl) : SlR X (rSlL K) := by
  subst h
  exact sl_list
def rJn (K : PySem.W.Frag) : V → List V → Hp → VK → Prop := fun x xs H Q => ∃ a p, ∃ ys : List Str, x = .str a ∧ xs = [.ref p] ∧ SqL K H p (ys.map V.str) ∧ (ys.map (·.length)).sum + ys.length * a.length ≤ 16777216 ∧ Q (.str (Txt.join a ys)) H
theorem mtJoin (K : PySem.W.Frag) (h : X.K = K := by rfl) : MtR X "str.join" (rJn K) := by
  subst h
  exact fun pins s σ H x xs v us Q I rx rs h => mt_join pins s σ H x xs v us Q I rx rs (let ⟨a, p, ys, e1, e2, e3, e4, q⟩ := h; ⟨a, p, ys, e1, e2, .inl e3, e4, q⟩)
end
end WK
namespace WK
open PySem PySem.Spec PyProof.Rows L2
theorem tyv_s {K : PySem.W.Frag} {z : Str} {H : Hp} : tyV K "str" (.str z) H = True := eq_true rfl
theorem tyv_l {K : PySem.W.Frag} {p : Addr} {H : Hp} {xs : List V} (h : H p = some (.lst xs)) : tyV K "list" (.ref p) H := .inl ⟨rfl, xs, .inl (.inl h)⟩
theorem app_eq {x : V} {vs : List V} {H : Hp} {Q : VK} : rAppend x vs H Q = ∃ l xs y, x = .ref l ∧ vs = [y] ∧ H l = some (.lst xs) ∧ xs.length < sizeLine ∧ Q .non (upd H l (.lst (xs ++ [y]))) := rfl
end WK
namespace WK
open PySem PySem.Spec PyProof.Rows L2
theorem inSeq {X : Cx} (K : PySem.W.Frag) (h : X.K = K := by rfl) : OpR X (compareOp .In) (rIn K false) := by
  subst h
  exact op_in_seq
theorem notInSeq {X : Cx} (K : PySem.W.Frag) (h : X.K = K := by rfl) : OpR X (compareOp .NotIn) (rIn K true) := by
  subst h
  exact op_notIn_seq
theorem sortI {X : Cx} (K : PySem.W.Frag) (h : X.K = K := by rfl) : CallR X (.builtin "sorted") (rSortedI K) := by
  subst h
  exact cr_sortedI
end WK
namespace WK
open PySem PySem.Spec PyProof.Rows L2
theorem bmK {X : Cx} {o e : Expr} {es : List Expr} {to : TE} {t : TA} {name : Str} {apos cpos : Pos} {T id : String} {r : V → List V → Hp → VK → Prop} (K : PySem.W.Frag) (pa : PlainAttrs T) (slot : Slot T name id) (hty : typeOf (.builtin id) = pure (.type "method_descriptor")) (hm : MtR X id r) (ho : PE X o to) (ha : PA X (e :: es) t)
    (h : X.K = K := by rfl) (hbase : attributeBase o name X.env (eval o X.env) = eval o X.env := by rfl)
    (few : ((backTo cpos (starEach (e :: es) X.env)).all (fun x => !x.1) && (backToKw cpos (keywordEach [] X.env)).all (fun x => x.1.isSome) && decide ((e :: es).length + ([] : List Keyword).length + (if ([] : List Keyword).isEmpty then 0 else 1) < 30)) = true := by rfl)
    (line : (apos.endLine == cpos.line) = true := by rfl) (hs : starEach (e :: es) X.env = (false, eval e X.env) :: starEach es X.env := by rfl) (plain : (backTo cpos (starEach es X.env)).any (·.1) = false := by rfl) :
    PE X (.Call (.Attribute o name apos) (e :: es) [] cpos) (tBM K T r to t) := by
  subst h
  exact pe_bm pa slot hty hm ho ha hbase few line hs plain
end WK
/-! ## texts of signs -/
namespace WK
open PySem PySem.Spec PyProof.Rows L2
/-- the text of these signs -/
def sg (l : List Nat) : Str := ⟨l.toArray⟩
theorem sg_cps (l : List Nat) : (sg l).cps.toList = l := by simp [sg]
theorem sg_len (l : List Nat) : (sg l).length = l.length := by
  show l.toArray.size = _
  simp
theorem sg_app (a b : List Nat) : sg a ++ sg b = sg (a ++ b) := by
  show (⟨a.toArray ++ b.toArray⟩ : Str) = ⟨(a ++ b).toArray⟩
  simp
theorem sg_inj {a b : List Nat} : sg a = sg b ↔ a = b := by
  constructor
  · intro h
    have := congrArg (fun s : Str => s.cps.toList) h
    rw [sg_cps, sg_cps] at this
    exact this
  · intro h
    rw [h]
/-- one sign counted -/
theorem occ_run (x : Str) (c limit : Nat) : ∀ (l : List Nat) (st : Array Nat × Nat), (∀ i ∈ l, st.2 ≤ i) → l.Pairwise (· < ·) →
    (forIn l st (PySem.StrLaws.occBody x ⟨#[c]⟩ x.length limit)).run.fst.toList = st.1.toList ++ (l.filter fun i => x.cps.toList[i]? == some c).take (limit - st.1.size)
  | [], st, _, _ => by simp
  | i :: l, st, hf, hp => by
    rw [List.forIn_cons]
    have hi := hf i List.mem_cons_self
    obtain ⟨hp1, hp2⟩ := List.pairwise_cons.mp hp
    have key := PySem.StrLaws.subAt_one x c i
    unfold PySem.StrLaws.occBody
    by_cases z : x.cps.toList[i]? = some c
    · have kz := key.mpr z
      by_cases y : st.1.size < limit
      · rw [if_pos ⟨⟨⟨y, hi⟩, kz.1⟩, kz.2⟩]
        have ih := occ_run x c limit l (st.1.push i, i + (⟨#[c]⟩ : Str).length) (fun j hj => hp1 j hj) hp2
        have e := ih
        show (forIn l (st.1.push i, i + (⟨#[c]⟩ : Str).length) (PySem.StrLaws.occBody x ⟨#[c]⟩ x.length limit)).run.fst.toList = _
        rw [e, List.filter_cons, if_pos (by rw [z]; exact beq_self_eq_true _)]
        have hl : limit - st.1.size = (limit - (st.1.push i).size) + 1 := by
          rw [Array.size_push]
          omega
        rw [hl, List.take_succ_cons, Array.toList_push, List.append_assoc]
        rfl
      · rw [if_neg fun w => y w.1.1.1]
        have ih := occ_run x c limit l st (fun j hj => hf j (List.mem_cons_of_mem _ hj)) hp2
        show (forIn l st (PySem.StrLaws.occBody x ⟨#[c]⟩ x.length limit)).run.fst.toList = _
        rw [ih, show limit - st.1.size = 0 by omega, List.take_zero, List.take_zero]
    · rw [if_neg fun w => z (key.mp ⟨w.1.2, w.2⟩)]
      have ih := occ_run x c limit l st (fun j hj => hf j (List.mem_cons_of_mem _ hj)) hp2
      show (forIn l st (PySem.StrLaws.occBody x ⟨#[c]⟩ x.length limit)).run.fst.toList = _
      rw [ih, List.filter_cons, if_neg (by rw [beq_iff_eq]; exact z)]
theorem occ_sign (x : Str) (c limit : Nat) : Builtin.Str.occurrences x ⟨#[c]⟩ 0 x.length limit = ((List.range (x.length + 1)).filter fun i => x.cps.toList[i]? == some c).take limit := by
  rw [PySem.StrLaws.occ_eq, occ_run x c limit _ _ (fun _ _ => Nat.zero_le _) (by simpa using List.pairwise_lt_range' (s := 0) (n := x.length + 1))]
  simp [List.range_eq_range']
theorem filter_count (l : List Nat) (c : Nat) : ∀ k : Nat, ((List.range k).filter fun i => l[i]? == some c).length = (l.take k).count c
  | 0 => rfl
  | k + 1 => by
    rw [List.range_succ, List.filter_append, List.length_append, filter_count l c k, List.take_add_one, List.count_append]
    congr 1
    cases h : l[k]? with
    | none => simp [h]
    | some d =>
      by_cases e : d = c
      · simp [h, e]
      · simp [h, e]
theorem count_sign (l : List Nat) (c : Nat) : Txt.count (sg l) ⟨#[c]⟩ = (l.count c : Nat) := by
  unfold Txt.count
  rw [occ_sign, List.take_of_length_le, filter_count, sg_cps, sg_len, List.take_of_length_le (by omega)]
  refine Nat.le_trans (List.length_filter_le _ _) ?_
  rw [List.length_range]
  exact Nat.le_refl _
/-! ### a text some times -/
def rMulS : V → V → Hp → VK → Prop := fun x y H Q => ∃ z n, x = .str z ∧ y = .int n ∧ MulOk z n ∧ Q (.str (Txt.mul z n)) H
theorem op_mul_str {X : Cx} : OpR X (binaryOp .Mult) rMulS := by
  rintro pins s σ H x y v u Q I rx ry ⟨z, n, rfl, rfl, hm, q⟩
  obtain ⟨t, rfl⟩ := rx
  obtain ⟨t2, rfl⟩ := ry
  exact PySem.SB.mul hm fun t3 k => ⟨.str (Txt.mul z n), H, I.tok k, ⟨t3, rfl⟩, q⟩
theorem fold_rep (c : Nat) : ∀ (n : Nat) (a : Array Nat), ((List.replicate n #[c]).foldl (· ++ ·) a).toList = a.toList ++ List.replicate n c
  | 0, a => by simp
  | n + 1, a => by
    rw [List.replicate_succ, List.foldl_cons, fold_rep c n]
    simp [List.replicate_succ]
theorem mul_sign {c n : Nat} (h : 1 ≤ n) : Txt.mul ⟨#[c]⟩ (n : Int) = sg (List.replicate n c) := by
  unfold Txt.mul
  rw [if_neg (by omega)]
  by_cases e : n = 1
  · rw [e]
    rfl
  · rw [if_neg (by
      have : ((n : Int) == 1) = false := by rw [beq_eq_false_iff_ne]; omega
      rw [this]
      show ¬ (false || decide ((1 : Nat) = 0)) = true
      decide)]
    show (⟨_⟩ : Str) = ⟨_⟩
    congr 1
    apply Array.toList_inj.mp
    rw [Int.toNat_natCast, fold_rep]
    simp
theorem mul_sign_ok {c n : Nat} (h2 : n ≤ 1000) : MulOk ⟨#[c]⟩ (n : Int) := by
  refine ⟨?_, fun _ _ => ?_, fun _ _ => ?_⟩
  · rw [Bool.or_eq_false_iff]
    exact ⟨decide_eq_false (by omega), decide_eq_false (by omega)⟩
  · intro z
    have z2 : (1 : Int) > (2 ^ 63 - 1) / n := z
    rcases Nat.eq_zero_or_pos n with e | e
    · omega
    · have := (Int.ediv_lt_iff_lt_mul (a := 2 ^ 63 - 1) (b := 1) (c := (n : Int)) (by omega)).mp z2
      omega
  · unfold Builtin.Str.tooLong
    rw [Int.toNat_natCast]
    show decide _ = false
    apply decide_eq_false
    have : (⟨#[c]⟩ : Str).length = 1 := rfl
    rw [this, sizeLine_eq]
    omega
end WK
namespace WK
open PySem PySem.Spec PyProof.Rows L2
theorem at_nat {α : Type} {xs : List α} {j : Nat} {v : α} {z : Int} (e : z = (j : Int)) (h : xs[j]? = some v) : atI xs z = some v := by
  obtain ⟨hl, _⟩ := List.getElem?_eq_some_iff.mp h
  unfold atI ixN
  rw [e, if_pos (by omega), if_pos (by omega), Int.toNat_natCast]
  exact h
theorem cut_sg (a b c : List Nat) {i j : Int} (hi : i = (a.length : Int)) (hj : j = ((a.length + b.length : Nat) : Int)) : cutS (sg (a ++ b ++ c)) (some i) (some j) = sg b := by
  subst hi hj
  unfold cutS
  rw [HT.sIx_nat, HT.sIx_nat, sg_len, sg_cps]
  have l : (a ++ b ++ c).length = a.length + b.length + c.length := by rw [List.length_append, List.length_append]
  rw [l, show min a.length (a.length + b.length + c.length) = a.length by omega, show min (a.length + b.length) (a.length + b.length + c.length) = a.length + b.length by omega]
  rw [List.append_assoc, List.drop_left, show a.length + b.length - a.length = b.length by omega, List.take_left]
  rfl
theorem glue_sg : ∀ (ls : List (List Nat)), Txt.join "" (ls.map sg) = sg ls.flatten := by
  have h : ∀ (ls : List (List Nat)) (a : Array Nat), ((ls.map sg).foldl (fun acc p => acc ++ ("" : Str).cps ++ p.cps) a).toList = a.toList ++ ls.flatten := by
    intro ls
    induction ls with
    | nil =>
      intro a
      simp
    | cons l ls ih =>
      intro a
      rw [List.map_cons, List.foldl_cons, ih]
      have e : ("" : Str).cps = #[] := rfl
      rw [e]
      simp [sg]
  intro ls
  cases ls with
  | nil => rfl
  | cons l ls =>
    show (⟨_⟩ : Str) = ⟨_⟩
    congr 1
    apply Array.toList_inj.mp
    have := h ls (sg l).cps
    simp only [List.map_cons, List.drop_succ_cons, List.drop_zero, List.headD_cons]
    rw [this, sg_cps]
    simp
/-- signs -/
theorem sg1 (c : Nat) : (⟨#[c]⟩ : Str) = sg [c] := rfl
def IsDig (d : Nat) : Prop := 48 ≤ d ∧ d ≤ 57
theorem dig_iff (c : Nat) : c ∈ ("0123456789" : Str).cps.toList ↔ IsDig c := by
  have e : ("0123456789" : Str).cps.toList = [48, 49, 50, 51, 52, 53, 54, 55, 56, 57] := by decide +kernel
  rw [e]
  unfold IsDig
  simp only [List.mem_cons, List.not_mem_nil, or_false]
  omega
theorem abcd_iff (c : Nat) : c ∈ ("abcd" : Str).cps.toList ↔ 97 ≤ c ∧ c ≤ 100 := by
  have e : ("abcd" : Str).cps.toList = [97, 98, 99, 100] := by decide +kernel
  rw [e]
  simp only [List.mem_cons, List.not_mem_nil, or_false]
  omega
theorem sign_eq {c d : Nat} : ((⟨#[c]⟩ : Str) = ⟨#[d]⟩) ↔ c = d := by
  constructor
  · intro h
    have := congrArg (fun s : Str => s.cps.toList) h
    simpa using this
  · intro h
    rw [h]
end WK
namespace WK
open PySem PySem.Spec PyProof.Rows L2 RZ
/-! ### zip of two lists, of two tuples -/
theorem piZip {X : Cx} (K : PySem.W.Frag) {e e2 : Expr} {ta : TA} {p pos tpos : Pos} {elts : List Expr} {kk : Nat} (hm : X.mg "zip" = none) (ha : PA X [e, e2] ta) (h : X.K = K := by rfl) (hg : Gl X "zip" := by rfl)
    (h1 : starEach [e, e2] X.env = (false, eval e X.env) :: starEach [e2] X.env := by rfl) (h2 : (backTo pos (starEach [e2] X.env)).any (·.1) = false := by rfl) : PI X (.Tuple elts kk tpos) (.Call (.Name "zip" p) [e, e2] [] pos) (iZipA K ta) := by
  subst h
  exact pi_zipA hg hm ha h1 h2
theorem walk_zipT {K : PySem.W.Frag} {a b : Addr} {xs ys : List V} {n : Nat} (hn : n = min xs.length ys.length) : Walk (ItzT K a b) n (fun H => SqT K H a xs ∧ SqT K H b ys) (YPair (fun i => xs[i]?) (fun i => ys[i]?)) := by
  subst hn
  refine ⟨fun i _ hi q => ⟨xs, ys, xs[i]'(by omega), ys[i]'(by omega), q.1, q.2, List.getElem?_eq_getElem _, List.getElem?_eq_getElem _⟩, fun _ q => ⟨xs, ys, q.1, q.2, by omega⟩, fun i H v H' _ q y => ?_⟩
  obtain ⟨T, x, z, e, nT, eH, g1, g2⟩ := y
  exact ⟨T, x, z, e, nT, eH, g1 xs q.1, g2 ys q.2⟩
end WK
namespace WK
open PySem PySem.Spec PyProof.Rows L2 RZ
/-- zip of two tuples, of two lists alone -/
def iZipT (K : PySem.W.Frag) (ta : TA) : TI := fun σ H R => ta σ H fun vs H1 => ∃ a b xs ys, vs = [.ref a, .ref b] ∧ SqT K H1 a xs ∧ SqT K H1 b ys ∧ R (ItzT K a b) H1
def iZipL (K : PySem.W.Frag) (ta : TA) : TI := fun σ H R => ta σ H fun vs H1 => ∃ a b xs ys, vs = [.ref a, .ref b] ∧ SqL K H1 a xs ∧ SqL K H1 b ys ∧ R (Itz K a b) H1
theorem pa_wk {X : Cx} {es : List Expr} {t : TA} (h : PA X es t) : PA X es (fun σ H Q => ∃ P, t σ H P ∧ ∀ vs H', P vs H' → Q vs H') := by
  refine ⟨fun pos pins s σ H Q I hh => ?_⟩
  obtain ⟨P, hp, w⟩ := hh
  exact thn (h.run pos pins s σ H P I hp) fun us s1 ⟨vs, H1, I1, r, q⟩ => ⟨vs, H1, I1, r, w _ _ q⟩
section
variable {X : Cx} (K : PySem.W.Frag) {e e2 : Expr} {ta : TA} {p pos tpos : Pos} {elts : List Expr} {kk : Nat}
theorem piZipT (hm : X.mg "zip" = none) (ha : PA X [e, e2] ta) (h : X.K = K := by rfl) (hg : Gl X "zip" := by rfl)
    (h1 : starEach [e, e2] X.env = (false, eval e X.env) :: starEach [e2] X.env := by rfl) (h2 : (backTo pos (starEach [e2] X.env)).any (·.1) = false := by rfl) : PI X (.Tuple elts kk tpos) (.Call (.Name "zip" p) [e, e2] [] pos) (iZipT K ta) := by
  have q := piZip (p := p) (elts := elts) (kk := kk) (tpos := tpos) K hm (pa_wk ha) h hg h1 h2
  refine ⟨fun pins s σ H R I hh => q.run pins s σ H R I ?_⟩
  refine ⟨_, hh, fun vs H' w => ?_⟩
  obtain ⟨a, b, xs, ys, e1, e2, e3, e4⟩ := w
  exact ⟨a, b, xs, ys, e1, .inr ⟨e2, e3, e4⟩⟩
theorem piZipL (hm : X.mg "zip" = none) (ha : PA X [e, e2] ta) (h : X.K = K := by rfl) (hg : Gl X "zip" := by rfl)
    (h1 : starEach [e, e2] X.env = (false, eval e X.env) :: starEach [e2] X.env := by rfl) (h2 : (backTo pos (starEach [e2] X.env)).any (·.1) = false := by rfl) : PI X (.Tuple elts kk tpos) (.Call (.Name "zip" p) [e, e2] [] pos) (iZipL K ta) := by
  have q := piZip (p := p) (elts := elts) (kk := kk) (tpos := tpos) K hm (pa_wk ha) h hg h1 h2
  refine ⟨fun pins s σ H R I hh => q.run pins s σ H R I ?_⟩
  refine ⟨_, hh, fun vs H' w => ?_⟩
  obtain ⟨a, b, xs, ys, e1, e2, e3, e4⟩ := w
  exact ⟨a, b, xs, ys, e1, .inl ⟨e2, e3, e4⟩⟩
end
end WK
/-! ## rows of refs to tuples that stand still -/
namespace WK
open PySem PySem.Spec PyProof.Rows L2
def TupsAt (H : Hp) (xs : List V) (ts : List (List V)) : Prop := xs.length = ts.length ∧ ∀ (j : Nat) (x : V) (t : List V), xs[j]? = some x → ts[j]? = some t → ∃ a, x = .ref a ∧ H a = some (.tup t)
theorem TupsAt.nil {H : Hp} : TupsAt H [] [] := ⟨rfl, fun _ _ _ h => by cases h⟩
theorem TupsAt.same {H H' : Hp} {xs : List V} {ts : List (List V)} (h : TupsAt H xs ts) (s : Same H H') : TupsAt H' xs ts := ⟨h.1, fun j x t hx ht => by
  obtain ⟨a, e, ha⟩ := h.2 j x t hx ht
  exact ⟨a, e, s _ _ ha⟩⟩
theorem TupsAt.but {H H' : Hp} {xs zs : List V} {ts : List (List V)} {D : Addr} (h : TupsAt H xs ts) (b : But D H H') (hD : H D = some (.lst zs)) : TupsAt H' xs ts := ⟨h.1, fun j x t hx ht => by
  obtain ⟨a, e, ha⟩ := h.2 j x t hx ht
  refine ⟨a, e, b _ _ (fun z => ?_) ha⟩
  rw [z, hD] at ha
  cases ha⟩
theorem TupsAt.put {H : Hp} {xs zs : List V} {ts : List (List V)} {D : Addr} {o : HO} (h : TupsAt H xs ts) (hD : H D = some (.lst zs)) : TupsAt (upd H D o) xs ts := h.but (But.refl.at) hD
theorem TupsAt.app {H : Hp} {xs ys : List V} {ts us : List (List V)} (h : TupsAt H xs ts) (g : TupsAt H ys us) : TupsAt H (xs ++ ys) (ts ++ us) := by
  refine ⟨by rw [List.length_append, List.length_append, h.1, g.1], fun j x t hx ht => ?_⟩
  by_cases hj : j < xs.length
  · rw [List.getElem?_append_left hj] at hx
    rw [List.getElem?_append_left (by rw [← h.1]; exact hj)] at ht
    exact h.2 j x t hx ht
  · rw [List.getElem?_append_right (by omega)] at hx
    rw [List.getElem?_append_right (by rw [← h.1]; omega), ← h.1] at ht
    exact g.2 _ x t hx ht
theorem TupsAt.one {H : Hp} {a : Addr} {t : List V} (h : H a = some (.tup t)) : TupsAt H [.ref a] [t] := ⟨rfl, fun j x u hx hu => by
  cases j with
  | zero =>
    cases hx
    cases hu
    exact ⟨a, rfl, h⟩
  | succ j => cases hx⟩
theorem TupsAt.snoc {H : Hp} {xs : List V} {ts : List (List V)} {a : Addr} {t : List V} (h : TupsAt H xs ts) (ha : H a = some (.tup t)) : TupsAt H (xs ++ [.ref a]) (ts ++ [t]) := h.app (.one ha)
theorem TupsAt.get {H : Hp} {xs : List V} {ts : List (List V)} {j : Nat} {x : V} (h : TupsAt H xs ts) (hx : xs[j]? = some x) : ∃ a t, x = .ref a ∧ ts[j]? = some t ∧ H a = some (.tup t) := by
  obtain ⟨hl, _⟩ := List.getElem?_eq_some_iff.mp hx
  rw [h.1] at hl
  obtain ⟨a, e, ha⟩ := h.2 j x _ hx (List.getElem?_eq_getElem hl)
  exact ⟨a, _, e, List.getElem?_eq_getElem hl, ha⟩
theorem _root_.L2.Same.keepT {H H' : Hp} {p : Addr} {t : List V} (x : Same H H') (h : H p = some (.tup t)) : H' p = some (.tup t) := x _ _ h
theorem But.keepT {D p : Addr} {H H' : Hp} {t zs : List V} (x : But D H H') (hD : H D = some (.lst zs)) (h : H p = some (.tup t)) : H' p = some (.tup t) := x _ _ (fun z => by rw [z, hD] at h; cases h) h
theorem int_list_ext {xs : List V} {ns : List Int} (h1 : xs.length = ns.length) (h2 : ∀ j x, xs[j]? = some x → x = V.int (ns.getD j 0)) : xs = ns.map V.int := by
  apply List.ext_getElem?
  intro j
  by_cases hj : j < ns.length
  · rw [List.getElem?_map, List.getElem?_eq_getElem hj, List.getElem?_eq_getElem (by omega), h2 j _ (List.getElem?_eq_getElem (by omega)), List.getD_eq_getElem?_getD, List.getElem?_eq_getElem hj]
    rfl
  · rw [List.getElem?_eq_none (by omega), List.getElem?_eq_none (by rw [List.length_map]; omega)]
theorem ints_at {ns : List Int} {k : Nat} (h : k < ns.length) : (ns.map V.int)[k]? = some (V.int (ns.getD k 0)) := by
  rw [List.getElem?_map, List.getElem?_eq_getElem h, List.getD_eq_getElem?_getD, List.getElem?_eq_getElem h]
  rfl
end WK
namespace WK
open PySem PySem.Spec PyProof.Rows L2
theorem But.mine {a p : Addr} {H H' : Hp} {o : HO} (x : But a H H') (np : H p = none) : But a H (upd H' p o) := fun b u n h => by
  rw [upd_ne (ne_of_none h np)]
  exact x b u n h
theorem lst_ne {H : Hp} {p a : Addr} {xs : List V} {o : HO} (np : H p = none) (h : H a = some o) : p ≠ a := fun e => by
  rw [e, h] at np
  cases np
end WK
namespace WK
open PySem PySem.Spec PyProof.Rows L2
theorem sqT_new {K : PySem.W.Frag} {H : Hp} {p t : Addr} {xs : List V} {o : HO} (h : SqT K H t xs) (np : H p = none) : SqT K (upd H p o) t xs := (same_new np).sqT h
end WK
namespace WK
open PySem PySem.Spec PyProof.Rows L2
theorem atI_ints {ns : List Int} {c : Int} (h0 : 0 ≤ c) (h1 : c < ns.length) : ∃ v, v ∈ ns ∧ atI (ns.map V.int) c = some (V.int v) := by
  have hk : c.toNat < ns.length := by omega
  refine ⟨ns[c.toNat], List.getElem_mem hk, ?_⟩
  refine at_nat (j := c.toNat) (by omega) ?_
  rw [List.getElem?_map, List.getElem?_eq_getElem hk]
  rfl
theorem getD_snoc_lt {cs : List Int} {v : Int} {k : Nat} (h : k < cs.length) : (cs ++ [v]).getD k 0 = cs.getD k 0 := by
  rw [List.getD_eq_getElem?_getD, List.getD_eq_getElem?_getD, List.getElem?_append_left h]
theorem getD_snoc_eq {cs : List Int} {v : Int} {k : Nat} (h : k = cs.length) : (cs ++ [v]).getD k 0 = v := by
  rw [List.getD_eq_getElem?_getD, h, List.getElem?_append_right (Nat.le_refl _), Nat.sub_self]
  rfl
end WK
/-! ## the sum of a tuple -/
namespace WK
open PySem PySem.Spec PyProof.Rows L2
def rSumT (K : PySem.W.Frag) : List V → Hp → VK → Prop := fun vs H Q => ∃ (a : Addr) (ns : List Int), vs = [V.ref a] ∧ SqT K H a (ns.map V.int) ∧ Q (.int ns.sum) H
theorem sumT {X : Cx} (K : PySem.W.Frag) (hc : X.calm = true := by rfl) (h : X.K = K := by rfl) : CallR X (.builtin "sum") (rSumT K) := by
  subst h
  intro pins s σ H vs us Q I r h
  obtain ⟨a, ns, rfl, hs, q⟩ := h
  obtain ⟨its, rv, hl, _⟩ := I.tuple hs
  rw [Vals.ref1 r]
  obtain ⟨xs, hx⟩ := rv.ints.allInts.items
  have hn : numsOf its.toArray.toList = ns := by rw [show its.toArray.toList = its from rfl, rv.ints.numsOf]
  rw [hx] at hl hn
  rw [nums_intItems] at hn
  refine PySem.W.ktm_sumG (I.ok.hd hc) hl fun h' tk t' hk => ?_
  refine ⟨.int _, H, I.kept hk, ⟨t', ?_⟩, q⟩
  rw [preSum_eq, List.take_of_length_le (by simp), hn]
theorem cxK {C : CXT} {P : Program} {w : World} {K : PySem.W.Frag} {mg : Str → Option Value} {base : Heap} {N : List Str} {q : Str} {sc : Scope} {f : Addr} {cd : Value} {A : Around} {outer : List Env} {s : Shared} {H : Hp} {E : XK} : (cxOf C P w K mg base N q sc f cd A outer s H E).K = K := rfl
theorem cxnK {C : CXT} {P : Program} {w : World} {K : PySem.W.Frag} {mg : Str → Option Value} {base : Heap} {N : List Str} {q : Str} {sc : Scope} {f : Addr} {cd : Value} {A : Around} {outer : List Env} {s : Shared} {H : Hp} {E : XK} : (cxOf C P w K mg base N q sc f cd A outer s H E).nox.K = K := rfl
end WK
/-! ## weaves, keys, cells: what needs no program -/
namespace WK
open PySem PySem.Spec PyProof.Rows L2
section
variable {K : PySem.W.Frag}
abbrev Br3 (o : HO) (n : Nat) : Prop := ∃ x y z : Int, o = .lst [.int x, .int y, .int z] ∧ 0 ≤ x ∧ 0 ≤ y ∧ y < 2 ^ 160 ∧ 0 ≤ z ∧ z ≤ (n : Int)
def Br (a : Addr) (n : Nat) (H : Hp) : Prop := ∃ o, H a = some o ∧ Br3 o n
theorem Br.mono {a : Addr} {n m : Nat} {H : Hp} (h : Br a n H) (l : n ≤ m) : Br a m H := by
  obtain ⟨o, h1, x, y, z, e, h2, h3, h4, h5, h6⟩ := h
  exact ⟨o, h1, x, y, z, e, h2, h3, h4, h5, by omega⟩
theorem Br3.mono {o : HO} {n m : Nat} (h : Br3 o n) (l : n ≤ m) : Br3 o m := by
  obtain ⟨x, y, z, e, h2, h3, h4, h5, h6⟩ := h
  exact ⟨x, y, z, e, h2, h3, h4, h5, by omega⟩
theorem Br.ne {K : PySem.W.Frag} {a : Addr} {n : Nat} {H : Hp} (h : Br a n H) : ∃ zs, H a = some (.lst zs) := by
  obtain ⟨o, h1, x, y, z, e, _⟩ := h
  exact ⟨_, by rw [h1, e]⟩
theorem Br.put {a : Addr} {n : Nat} {H : Hp} {o : HO} (h : Br3 o n) : Br a n (upd H a o) := ⟨o, upd_same, h⟩
theorem Br.new {a p : Addr} {n : Nat} {H : Hp} {o : HO} (h : Br a n H) (np : H p = none) : Br a n (upd H p o) := by
  obtain ⟨u, h1, h2⟩ := h
  exact ⟨u, upd_new np h1, h2⟩
theorem Br.same {a : Addr} {n : Nat} {H H' : Hp} (h : Br a n H) (s : Same H H') : Br a n H' := by
  obtain ⟨o, h1, h2⟩ := h
  exact ⟨o, s _ _ h1, h2⟩
theorem Br.apart {a p : Addr} {n : Nat} {H : Hp} (h : Br a n H) (np : H p = none) : p ≠ a := fun e => by
  obtain ⟨o, h, _⟩ := h
  rw [← e, np] at h
  cases h
theorem none_of {H : Hp} {p q : Addr} {o : HO} (h : upd H p o q = none) : H q = none := by
  rw [← h, upd_ne]
  intro z
  rw [z, upd_same] at h
  cases h
theorem lt1000 {m : Int} {k : Nat} (h : m < 2 ^ k) (hk : k ≤ 1000) : m < 2 ^ (1000 : Nat) := lt_pow h hk
theorem small1000' {m : Int} (h : m < 1000000000000000000000000000000) : m < 2 ^ (1000 : Nat) := lt1000 (k := 100) (Int.lt_trans h (by decide +kernel)) (by decide)

abbrev Item : Type := Nat × Nat × List Nat
def fx (its : List Item) : List Nat := its.flatMap fun it => it.1 :: it.2.2
def lx (its : List Item) : List Nat := its.flatMap fun it => List.replicate it.2.1 it.1
structure DsOk (t : Nat) (ds : List Nat) : Prop where
  dig : ∀ d ∈ ds, IsDig d
  one : ds = [] → t = 1
  len : ds.length ≤ 3
  num : ds ≠ [] → PySem.intText? (sg ds) = some (t : Int) ∧ 2 ≤ t ∧ t ≤ 240 ∧ ds[0]? ≠ some 48
theorem DsOk.most {t : Nat} {ds : List Nat} (h : DsOk t ds) : 1 ≤ t ∧ t ≤ 240 := by
  by_cases e : ds = []
  · rw [h.one e]
    exact ⟨by decide, by decide⟩
  · obtain ⟨_, a, b, _⟩ := h.num e
    exact ⟨by omega, b⟩
def ItOk (it : Item) : Prop := 97 ≤ it.1 ∧ it.1 ≤ 100 ∧ DsOk it.2.1 it.2.2
theorem fx_cons (it : Item) (its : List Item) : fx (it :: its) = it.1 :: (it.2.2 ++ fx its) := rfl
def PartsAt (H : Hp) (xs : List V) (its : List Item) : Prop := xs.length = its.length ∧ ∀ (j : Nat) (x : V) (it : Item), xs[j]? = some x → its[j]? = some it → ∃ a, x = .ref a ∧ H a = some (.tup [.str (sg [it.1]), .int (it.2.1 : Int)])
theorem PartsAt.same {H H' : Hp} {xs : List V} {its : List Item} (h : PartsAt H xs its) (s : Same H H') : PartsAt H' xs its := by
  refine ⟨h.1, fun j x it hx hi => ?_⟩
  obtain ⟨a, e, ha⟩ := h.2 j x it hx hi
  exact ⟨a, e, s _ _ ha⟩
theorem PartsAt.put {H : Hp} {xs : List V} {its : List Item} {D : Addr} {zs : List V} {o : HO} (h : PartsAt H xs its) (hD : H D = some (.lst zs)) : PartsAt (upd H D o) xs its := by
  refine ⟨h.1, fun j x it hx hi => ?_⟩
  obtain ⟨a, e, ha⟩ := h.2 j x it hx hi
  refine ⟨a, e, upd_at (fun z => ?_) ha⟩
  rw [z, hD] at ha
  cases ha
theorem PartsAt.snoc {H : Hp} {xs : List V} {its : List Item} {a : Addr} {it : Item} (h : PartsAt H xs its) (ha : H a = some (.tup [.str (sg [it.1]), .int (it.2.1 : Int)])) : PartsAt H (xs ++ [.ref a]) (its ++ [it]) := by
  refine ⟨by rw [List.length_append, List.length_append, h.1]; rfl, fun j x i2 hx hi => ?_⟩
  by_cases hj : j < xs.length
  · rw [List.getElem?_append_left hj] at hx
    rw [List.getElem?_append_left (by rw [← h.1]; exact hj)] at hi
    exact h.2 j x i2 hx hi
  · rw [List.getElem?_append_right (by omega)] at hx
    rw [List.getElem?_append_right (by rw [← h.1]; omega), ← h.1] at hi
    have hj0 : j - xs.length = 0 := by
      have := (List.getElem?_eq_some_iff.mp hx).1
      simp only [List.length_singleton] at this
      omega
    rw [hj0] at hx hi
    cases hx
    cases hi
    exact ⟨a, rfl, ha⟩
theorem fx_take (its : List Item) (i : Nat) (h : i < its.length) : fx its = fx (its.take i) ++ (its[i].1 :: (its[i].2.2 ++ fx (its.drop (i + 1)))) := by
  have e : its = its.take i ++ (its[i] :: its.drop (i + 1)) := by
    rw [← List.drop_eq_getElem_cons h, List.take_append_drop]
  conv => lhs; rw [e]
  unfold fx
  rw [List.flatMap_append, List.flatMap_cons]
  rfl
theorem fx_step (its : List Item) (i : Nat) (h : i < its.length) : (fx (its.take (i + 1))).length = (fx (its.take i)).length + 1 + its[i].2.2.length := by
  rw [List.take_succ_eq_append_getElem h]
  unfold fx
  rw [List.flatMap_append, List.length_append]
  simp
  omega
theorem fx_head (its : List Item) (hi : ∀ it ∈ its, ItOk it) (d : Nat) (h : (fx its)[0]? = some d) : ¬ IsDig d := by
  cases its with
  | nil => cases h
  | cons it its =>
    have e : it.1 = d := Option.some.inj h
    have := hi it List.mem_cons_self
    unfold ItOk at this
    unfold IsDig
    omega
theorem fx_ge : ∀ its : List Item, its.length ≤ (fx its).length
  | [] => Nat.zero_le _
  | it :: its => by
    have := fx_ge its
    rw [fx_cons, List.length_cons, List.length_cons, List.length_append]
    omega
theorem lx_take (its : List Item) (i : Nat) (h : i < its.length) : lx (its.take (i + 1)) = lx (its.take i) ++ List.replicate its[i].2.1 its[i].1 := by
  rw [List.take_succ_eq_append_getElem h]
  unfold lx
  rw [List.flatMap_append]
  simp
theorem lx_ge : ∀ its : List Item, (∀ it ∈ its, ItOk it) → its.length ≤ (lx its).length
  | [], _ => Nat.zero_le _
  | it :: its, h => by
    have := lx_ge its fun x hx => h x (List.mem_cons_of_mem _ hx)
    have h1 := (h it List.mem_cons_self).2.2.most
    show _ ≤ (List.replicate it.2.1 it.1 ++ lx its).length
    rw [List.length_cons, List.length_append, List.length_replicate]
    omega
theorem shaped_all : ∀ ns : List Int, PyData.canLayAll0 (ns.map .int) = true ∧ PyData.depthAll (ns.map .int) = 0
  | [] => ⟨rfl, rfl⟩
  | n :: ns => by
    obtain ⟨a, b⟩ := shaped_all ns
    exact ⟨by simp only [List.map_cons, PyData.canLayAll0, PyData.canLay0, a, Bool.and_self], by simp only [List.map_cons, PyData.depthAll, PyData.depth, b, Nat.max_self]⟩
theorem shaped_ints (ns : List Int) : SeqAt.shaped (.list (ns.map .int)) = true := by
  obtain ⟨a, b⟩ := shaped_all ns
  simp only [SeqAt.shaped, PyData.canLay0, PyData.depth, a, b]
  decide
theorem flat_ints (ns : List Int) : (ns.map V.int).all flatV = true := by
  rw [List.all_eq_true]
  intro x hx
  obtain ⟨i, _, rfl⟩ := List.mem_map.mp hx
  rfl
theorem at_last {ns : List Int} {v : Int} (h : 0 < ns.length) (e : ns[ns.length - 1]? = some v) : atI (ns.map V.int) (-1) = some (V.int v) := by
  unfold atI ixN
  rw [List.length_map, if_neg (by decide), if_pos (by omega)]
  show (ns.map V.int)[(-1 + (ns.length : Int)).toNat]? = _
  rw [show (-1 + (ns.length : Int)).toNat = ns.length - 1 by omega, List.getElem?_map, e]
  rfl
/-- the numbers of the signs of each axis -/
def cnts (l : List Nat) (n : Nat) : List Int := (List.range n).map fun k => (l.count (97 + k) : Int)
theorem cnts_at {l : List Nat} {n k : Nat} (h : k < n) : (cnts l n)[k]? = some (l.count (97 + k) : Int) := by
  unfold cnts
  rw [List.getElem?_map, List.getElem?_range h]
  rfl
theorem cnts_cut {l : List Nat} {m : Nat} (h : 1 ≤ m) : HO.lst (cutV ((cnts l m).map V.int) none (some (-1))) = HO.lst ((cnts l (m - 1)).map V.int) := by
  have hl : ((cnts l m).map V.int).length = m := by
    unfold cnts
    rw [List.length_map, List.length_map, List.length_range]
  unfold cutV
  rw [hl, HT.sIx_none]
  have e : HT.sIx m m (some (-1)) = m - 1 := by
    show (if (-1 : Int) < 0 then ((-1 : Int) + (m : Int)).toNat else min (-1 : Int).toNat m) = m - 1
    rw [if_pos (by decide)]
    omega
  rw [e, List.drop_zero, Nat.sub_zero]
  congr 1
  unfold cnts
  rw [← List.map_take, ← List.map_take, List.take_range, Nat.min_eq_left (by omega)]
theorem cnt_step (n : Nat) : ∀ l : List Nat, (l.filter fun c => decide (97 ≤ c ∧ c < 97 + (n + 1))).length = (l.filter fun c => decide (97 ≤ c ∧ c < 97 + n)).length + l.count (97 + n)
  | [] => rfl
  | c :: l => by
    have ih := cnt_step n l
    rw [List.filter_cons, List.filter_cons, List.count_cons]
    by_cases h : c = 97 + n
    · rw [if_pos (decide_eq_true (by omega)), if_neg (by rw [decide_eq_true_eq]; omega), if_pos (by rw [h]; exact beq_self_eq_true _), List.length_cons, ih]
      omega
    · rw [if_neg (show ¬ (c == 97 + n) = true by rw [beq_iff_eq]; exact h)]
      by_cases g : 97 ≤ c ∧ c < 97 + n
      · rw [if_pos (decide_eq_true (by omega)), if_pos (decide_eq_true g), List.length_cons, List.length_cons, ih]
        omega
      · rw [if_neg (by rw [decide_eq_true_eq]; omega), if_neg (by rw [decide_eq_true_eq]; exact g), ih]
        rfl
theorem cnts_succ (l : List Nat) (n : Nat) : cnts l (n + 1) = cnts l n ++ [(l.count (97 + n) : Int)] := by
  unfold cnts
  rw [List.range_succ, List.map_append]
  rfl
theorem cnts_sum (l : List Nat) : ∀ n : Nat, (cnts l n).sum = ((l.filter fun c => decide (97 ≤ c ∧ c < 97 + n)).length : Int)
  | 0 => by
    have : (l.filter fun c => decide (97 ≤ c ∧ c < 97 + 0)) = [] := by
      rw [List.filter_eq_nil_iff]
      intro c _
      rw [decide_eq_true_eq]
      omega
    rw [this]
    rfl
  | n + 1 => by
    rw [cnts_succ, List.sum_append, cnts_sum l n, cnt_step n l]
    simp
theorem cnts_mem {l : List Nat} {n : Nat} {i : Int} (h : i ∈ cnts l n) : ∃ k, k < n ∧ i = (l.count (97 + k) : Int) := by
  obtain ⟨k, hk, rfl⟩ := List.mem_map.mp h
  exact ⟨k, List.mem_range.mp hk, rfl⟩
structure WOk (l : List Nat) (n : Nat) : Prop where
  n1 : 1 ≤ n
  n4 : n ≤ 4
  lo : ∀ k, k < n → 1 ≤ l.count (97 + k)
  hi : ∀ k, k < n → l.count (97 + k) ≤ 120
  no : ∀ k, n ≤ k → k < 4 → l.count (97 + k) = 0
  al : ∀ c ∈ l, 97 ≤ c ∧ c ≤ 100
  le : l.length ≤ 240
theorem abcd_at {c i : Nat} (h : (Str.ofString "abcd").cps[i]? = some c) : c = 97 + i := by
  have e : (Str.ofString "abcd").cps = #[97, 98, 99, 100] := by decide +kernel
  rw [e] at h
  match i, h with
  | 0, h => exact (Option.some.inj h).symm
  | 1, h => exact (Option.some.inj h).symm
  | 2, h => exact (Option.some.inj h).symm
  | 3, h => exact (Option.some.inj h).symm
  | (k + 4), h => simp at h
theorem neE_do {H : Hp} {a b : Addr} {ns : List Int} {Q : VK} (h1 : SqL K H a (ns.map V.int)) (h2 : H b = some (.lst [])) (hn : 0 < ns.length) (q : Q (.bl true) H) : rNeD K (.ref a) (.ref b) H Q := by
  cases ns with
  | nil => cases hn
  | cons x xs =>
    refine ⟨_, _, .lst h1 (dp_ints _), .lst (sqL_of h2) .nil, shaped_ints _, rfl, ?_⟩
    exact q
theorem eqE_do {H : Hp} {a b : Addr} {ns : List Int} {Q : VK} (h1 : SqL K H a (ns.map V.int)) (h2 : H b = some (.lst [])) (hn : 0 < ns.length) (q : Q (.bl false) H) : rEqD K (.ref a) (.ref b) H Q := by
  cases ns with
  | nil => cases hn
  | cons x xs =>
    refine ⟨_, _, .lst h1 (dp_ints _), .lst (sqL_of h2) .nil, shaped_ints _, rfl, ?_⟩
    exact q
def shp (K : PySem.W.Frag) (H : Hp) (a : Addr) (l : List Nat) (n : Nat) : Prop := ∃ dx sh, H a = some (.ins (He.ga K "Weave") dx [("own_letters", .str (sg l)), ("own_shape", .ref sh)]) ∧ H sh = some (.tup ((cnts l n).map V.int))
theorem abcd_index {c : Nat} (h1 : 97 ≤ c) (h2 : c ≤ 100) : Builtin.Str.occurrences (Str.ofString "abcd") ⟨#[c]⟩ 0 (Str.ofString "abcd").length 1 = [c - 97] := by
  rcases (show c = 97 ∨ c = 98 ∨ c = 99 ∨ c = 100 by omega) with e | e | e | e <;> subst e <;> decide +kernel
def PathAt (H : Hp) (xs : List V) (l : List Nat) (n : Nat) : Prop := ∀ (j : Nat) (x : V) (c : Nat), xs[j]? = some x → l[j]? = some c → ∃ a t, x = .ref a ∧ H a = some (.tup [.int ((c - 97 : Nat) : Int), .ref t]) ∧ H t = some (.tup ((cnts (l.take j) n).map V.int))
theorem PathAt.same {H H' : Hp} {xs : List V} {l : List Nat} {n : Nat} (h : PathAt H xs l n) (s : Same H H') : PathAt H' xs l n := fun j x c hx hc => by
  obtain ⟨a, t, e, ha, ht⟩ := h j x c hx hc
  exact ⟨a, t, e, s _ _ ha, s _ _ ht⟩
theorem PathAt.put {H : Hp} {xs zs : List V} {l : List Nat} {n : Nat} {D : Addr} {o : HO} (h : PathAt H xs l n) (hD : H D = some (.lst zs)) : PathAt (upd H D o) xs l n := fun j x c hx hc => by
  obtain ⟨a, t, e, ha, ht⟩ := h j x c hx hc
  have na : a ≠ D := fun z => by
    rw [z, hD] at ha
    cases ha
  have nt : t ≠ D := fun z => by
    rw [z, hD] at ht
    cases ht
  exact ⟨a, t, e, upd_at na ha, upd_at nt ht⟩
theorem PathAt.snoc {H : Hp} {xs : List V} {l : List Nat} {n : Nat} {a t : Addr} {c : Nat} (h : PathAt H xs l n) (hc : l[xs.length]? = some c) (ha : H a = some (.tup [.int ((c - 97 : Nat) : Int), .ref t])) (ht : H t = some (.tup ((cnts (l.take xs.length) n).map V.int))) : PathAt H (xs ++ [.ref a]) l n := fun j x d hx hd => by
  by_cases hj : j < xs.length
  · rw [List.getElem?_append_left hj] at hx
    exact h j x d hx hd
  · rw [List.getElem?_append_right (by omega)] at hx
    have hj0 := (List.getElem?_eq_some_iff.mp hx).1
    simp only [List.length_singleton] at hj0
    have e : j = xs.length := by omega
    subst e
    rw [Nat.sub_self] at hx
    cases hx
    rw [hc] at hd
    cases hd
    exact ⟨a, t, rfl, ha, ht⟩
theorem rep_one (v : V) : ∀ n : Nat, (List.replicate n [v]).flatten = List.replicate n v
  | 0 => rfl
  | n + 1 => by
    rw [List.replicate_succ, List.flatten_cons, rep_one v n]
    rfl
theorem cnts_nil (n : Nat) : cnts [] n = List.replicate n 0 := by
  unfold cnts
  simp [List.map_const']
theorem cnts_len (l : List Nat) (n : Nat) : (cnts l n).length = n := by
  unfold cnts
  rw [List.length_map, List.length_range]
theorem cnts_snoc {l : List Nat} {n c : Nat} (h1 : 97 ≤ c) (h2 : c < 97 + n) : cnts (l ++ [c]) n = (cnts l n).set (c - 97) ((l.count c : Int) + 1) := by
  apply List.ext_getElem?
  intro k
  by_cases hk : k < n
  · rw [cnts_at hk]
    by_cases e : k = c - 97
    · rw [← e, List.getElem?_set_self (by rw [cnts_len]; exact hk), List.count_append]
      have : 97 + k = c := by omega
      rw [this]
      simp
    · rw [List.getElem?_set_ne (by omega), cnts_at hk, List.count_append]
      have : ¬ c = 97 + k := by omega
      simp [this]
  · rw [List.getElem?_eq_none (by rw [cnts_len]; omega), List.getElem?_eq_none (by rw [List.length_set, cnts_len]; omega)]
theorem WOk.rng {l : List Nat} {n : Nat} (h : WOk l n) : ∀ c ∈ l, 97 ≤ c ∧ c < 97 + n := fun c hc => by
  obtain ⟨a, b⟩ := h.al c hc
  refine ⟨a, ?_⟩
  rcases Nat.lt_or_ge c (97 + n) with g | g
  · exact g
  · have e := h.no (c - 97) (by omega) (by omega)
    have := List.count_pos_iff.mpr hc
    rw [show 97 + (c - 97) = c by omega] at e
    omega
theorem cnt_lt {l : List Nat} {i : Nat} (h : i < l.length) : (l.take i).count l[i] < l.count l[i] := by
  have e : l = l.take i ++ (l[i] :: l.drop (i + 1)) := by
    rw [← List.drop_eq_getElem_cons h, List.take_append_drop]
  have e2 : l.count l[i] = (l.take i ++ (l[i] :: l.drop (i + 1))).count l[i] := by rw [← e]
  rw [e2, List.count_append, List.count_cons_self]
  omega
/-- the key's first j bits -/
def keyN (l : List Nat) (cs : List Int) : Nat → Int
  | 0 => 0
  | j + 1 => keyN l cs j * 2 + cs.getD (l.getD j 0 - 97) 0 / 2 ^ (l.count (l.getD j 0) - (l.take j).count (l.getD j 0) - 1) % 2
theorem keyN_bound (l : List Nat) (cs : List Int) : ∀ j, 0 ≤ keyN l cs j ∧ keyN l cs j < 2 ^ j
  | 0 => ⟨Int.le_refl _, by show (0 : Int) < 2 ^ 0; decide⟩
  | j + 1 => by
    obtain ⟨a, b⟩ := keyN_bound l cs j
    have r0 := Int.emod_nonneg (cs.getD (l.getD j 0 - 97) 0 / 2 ^ (l.count (l.getD j 0) - (l.take j).count (l.getD j 0) - 1)) (show (2 : Int) ≠ 0 by decide)
    have r1 := Int.emod_lt_of_pos (cs.getD (l.getD j 0 - 97) 0 / 2 ^ (l.count (l.getD j 0) - (l.take j).count (l.getD j 0) - 1)) (show (0 : Int) < 2 by decide)
    rw [keyN, Int.pow_succ]
    omega
structure CellOk (l : List Nat) (n : Nat) (cs : List Int) : Prop where
  len : cs.length = n
  lo : ∀ k, k < n → 0 ≤ cs.getD k 0
  hi : ∀ k, k < n → cs.getD k 0 < 2 ^ l.count (97 + k)
/-- a number of a key's cell, after j letters -/
def cellN (l : List Nat) (key : Int) (k : Nat) : Nat → Int
  | 0 => 0
  | j + 1 => if l.getD j 0 = 97 + k then cellN l key k j * 2 + key / 2 ^ (l.length - (j + 1)) % 2 else cellN l key k j
def nums (l : List Nat) (key : Int) (n j : Nat) : List Int := (List.range n).map fun k => cellN l key k j
theorem nums_len (l : List Nat) (key : Int) (n j : Nat) : (nums l key n j).length = n := by
  unfold nums
  rw [List.length_map, List.length_range]
theorem nums_at {l : List Nat} {key : Int} {n j k : Nat} (h : k < n) : (nums l key n j)[k]? = some (cellN l key k j) := by
  unfold nums
  rw [List.getElem?_map, List.getElem?_range h]
  rfl
theorem nums_step {l : List Nat} {key : Int} {n j : Nat} (h1 : 97 ≤ l.getD j 0) : nums l key n (j + 1) = (nums l key n j).set (l.getD j 0 - 97) (cellN l key (l.getD j 0 - 97) j * 2 + key / 2 ^ (l.length - (j + 1)) % 2) := by
  apply List.ext_getElem?
  intro k
  by_cases hk : k < n
  · rw [nums_at hk, cellN]
    by_cases e : l.getD j 0 = 97 + k
    · rw [if_pos e, show l.getD j 0 - 97 = k by omega, List.getElem?_set_self (by rw [nums_len]; exact hk)]
    · rw [if_neg e, List.getElem?_set_ne (by omega), nums_at hk]
  · rw [List.getElem?_eq_none (by rw [nums_len]; omega), List.getElem?_eq_none (by rw [List.length_set, nums_len]; omega)]
theorem cellN_bound (l : List Nat) (key : Int) (k : Nat) : ∀ j, 0 ≤ cellN l key k j ∧ cellN l key k j < 2 ^ j
  | 0 => ⟨Int.le_refl _, by show (0 : Int) < 2 ^ 0; decide⟩
  | j + 1 => by
    obtain ⟨a, b⟩ := cellN_bound l key k j
    have r0 := Int.emod_nonneg (key / 2 ^ (l.length - (j + 1))) (show (2 : Int) ≠ 0 by decide)
    have r1 := Int.emod_lt_of_pos (key / 2 ^ (l.length - (j + 1))) (show (0 : Int) < 2 by decide)
    rw [cellN, Int.pow_succ]
    split <;> omega
theorem ediv_pow_succ (x : Int) (m : Nat) : x / 2 ^ (m + 1) = x / 2 / 2 ^ m := by
  rw [Int.ediv_ediv_of_nonneg (by decide), Int.pow_succ, Int.mul_comm]
theorem ediv_pow_succ' (x : Int) (m : Nat) : x / 2 ^ (m + 1) = x / 2 ^ m / 2 := by
  rw [Int.ediv_ediv_of_nonneg (Int.le_of_lt (Int.pow_pos (by decide))), Int.pow_succ]
theorem keyN_half (l : List Nat) (cs : List Int) (j : Nat) : keyN l cs (j + 1) / 2 = keyN l cs j := by
  rw [keyN]
  generalize cs.getD (l.getD j 0 - 97) 0 / 2 ^ (l.count (l.getD j 0) - (l.take j).count (l.getD j 0) - 1) = X
  omega
theorem keyN_div (l : List Nat) (cs : List Int) (j : Nat) : ∀ m : Nat, keyN l cs (j + m) / 2 ^ m = keyN l cs j
  | 0 => by rw [Int.pow_zero, Int.ediv_one]; rfl
  | m + 1 => by
    rw [ediv_pow_succ, ← Nat.add_assoc, keyN_half, keyN_div l cs j m]
theorem keyN_bit {l : List Nat} {cs : List Int} {j : Nat} (h : j < l.length) : keyN l cs l.length / 2 ^ (l.length - (j + 1)) % 2 = cs.getD (l.getD j 0 - 97) 0 / 2 ^ (l.count (l.getD j 0) - (l.take j).count (l.getD j 0) - 1) % 2 := by
  have e := keyN_div l cs (j + 1) (l.length - (j + 1))
  rw [show j + 1 + (l.length - (j + 1)) = l.length by omega] at e
  rw [e, keyN]
  generalize cs.getD (l.getD j 0 - 97) 0 / 2 ^ (l.count (l.getD j 0) - (l.take j).count (l.getD j 0) - 1) = X
  omega
theorem count_step {l : List Nat} {j c : Nat} (h : j < l.length) : (l.take (j + 1)).count c = (l.take j).count c + if l.getD j 0 = c then 1 else 0 := by
  have hg : l.getD j 0 = l[j] := by rw [List.getD_eq_getElem?_getD, List.getElem?_eq_getElem h]; rfl
  rw [List.take_succ_eq_append_getElem h, List.count_append, hg, List.count_singleton]
  simp
theorem count_take_le (l : List Nat) (j c : Nat) : (l.take j).count c ≤ l.count c := List.Sublist.count_le _ (List.take_sublist j l)
theorem cellN_key {l : List Nat} {cs : List Int} {k : Nat} (h0 : 0 ≤ cs.getD k 0) (h1 : cs.getD k 0 < 2 ^ l.count (97 + k)) : ∀ j, j ≤ l.length → cellN l (keyN l cs l.length) k j = cs.getD k 0 / 2 ^ (l.count (97 + k) - (l.take j).count (97 + k))
  | 0, _ => by
    rw [cellN, List.take_zero, List.count_nil, Nat.sub_zero, Int.ediv_eq_zero_of_lt h0 h1]
  | j + 1, h => by
    have hj : j < l.length := h
    have ih := cellN_key h0 h1 j (by omega)
    rw [cellN, ih, count_step hj]
    by_cases e : l.getD j 0 = 97 + k
    · have hlt := cnt_lt hj
      have hg : l.getD j 0 = l[j] := by rw [List.getD_eq_getElem?_getD, List.getElem?_eq_getElem hj]; rfl
      rw [← hg, e] at hlt
      rw [if_pos e, if_pos e, keyN_bit hj, e, show 97 + k - 97 = k by omega]
      obtain ⟨m, hm⟩ : ∃ m, l.count (97 + k) = (l.take j).count (97 + k) + 1 + m := ⟨l.count (97 + k) - ((l.take j).count (97 + k) + 1), by omega⟩
      rw [hm, show (l.take j).count (97 + k) + 1 + m - (l.take j).count (97 + k) = m + 1 by omega, show (l.take j).count (97 + k) + 1 + m - ((l.take j).count (97 + k) + 1) = m by omega, show m + 1 - 1 = m by omega, ediv_pow_succ']
      generalize cs.getD k 0 / 2 ^ m = X
      omega
    · rw [if_neg e, if_neg e, Nat.add_zero]
theorem nums_key {l : List Nat} {n : Nat} {cs : List Int} (hc : CellOk l n cs) : nums l (keyN l cs l.length) n l.length = cs := by
  apply List.ext_getElem?
  intro k
  by_cases hk : k < n
  · rw [nums_at hk, cellN_key (hc.lo k hk) (hc.hi k hk) _ (Nat.le_refl _), List.take_length, Nat.sub_self, Int.pow_zero, Int.ediv_one, List.getD_eq_getElem?_getD, List.getElem?_eq_getElem (by rw [hc.len]; exact hk)]
    rfl
  · rw [List.getElem?_eq_none (by unfold nums; rw [List.length_map, List.length_range]; omega), List.getElem?_eq_none (by rw [hc.len]; omega)]
theorem cellN_div {l : List Nat} {key : Int} {k j : Nat} : ∀ m : Nat, j + m ≤ l.length → cellN l key k (j + m) / 2 ^ ((l.take (j + m)).count (97 + k) - (l.take j).count (97 + k)) = cellN l key k j
  | 0, _ => by rw [Nat.add_zero, Nat.sub_self, Int.pow_zero, Int.ediv_one]
  | m + 1, h => by
    have hj : j + m < l.length := by omega
    have ih := cellN_div (l := l) (key := key) (k := k) (j := j) m (by omega)
    have mono : (l.take j).count (97 + k) ≤ (l.take (j + m)).count (97 + k) := List.Sublist.count_le _ (by
      rw [show l.take j = (l.take (j + m)).take j by rw [List.take_take, Nat.min_eq_left (by omega)]]
      exact List.take_sublist _ _)
    rw [← Nat.add_assoc, cellN, count_step hj]
    by_cases e : l.getD (j + m) 0 = 97 + k
    · rw [if_pos e, if_pos e, show (l.take (j + m)).count (97 + k) + 1 - (l.take j).count (97 + k) = ((l.take (j + m)).count (97 + k) - (l.take j).count (97 + k)) + 1 by omega, ediv_pow_succ]
      generalize key / 2 ^ (l.length - (j + m + 1)) = X
      rw [show (cellN l key k (j + m) * 2 + X % 2) / 2 = cellN l key k (j + m) by omega]
      exact ih
    · rw [if_neg e, if_neg e, Nat.add_zero]
      exact ih
theorem cellN_hi {l : List Nat} {key : Int} {k : Nat} : ∀ j, j ≤ l.length → 0 ≤ cellN l key k j ∧ cellN l key k j < 2 ^ (l.take j).count (97 + k)
  | 0, _ => ⟨Int.le_refl _, by rw [List.take_zero, List.count_nil]; show (0 : Int) < 2 ^ 0; decide⟩
  | j + 1, h => by
    obtain ⟨a, b⟩ := cellN_hi (l := l) (key := key) (k := k) j (by omega)
    rw [cellN, count_step h]
    by_cases e : l.getD j 0 = 97 + k
    · rw [if_pos e, if_pos e, Int.pow_succ]
      generalize key / 2 ^ (l.length - (j + 1)) = X
      omega
    · rw [if_neg e, if_neg e, Nat.add_zero]
      exact ⟨a, b⟩
theorem nums_ok (l : List Nat) (key : Int) (n : Nat) : CellOk l n (nums l key n l.length) := by
  have g : ∀ k, k < n → (nums l key n l.length).getD k 0 = cellN l key k l.length := fun k hk => by
    rw [List.getD_eq_getElem?_getD, nums_at hk]
    rfl
  refine ⟨by unfold nums; rw [List.length_map, List.length_range], fun k hk => ?_, fun k hk => ?_⟩
  · rw [g k hk]
    exact (cellN_hi _ (Nat.le_refl _)).1
  · rw [g k hk]
    have := (cellN_hi (l := l) (key := key) (k := k) _ (Nat.le_refl _)).2
    rw [List.take_length] at this
    exact this
theorem key_nums {l : List Nat} {key : Int} {n : Nat} (hl : ∀ c ∈ l, 97 ≤ c ∧ c < 97 + n) (k0 : 0 ≤ key) (k1 : key < 2 ^ l.length) : ∀ j, j ≤ l.length → keyN l (nums l key n l.length) j = key / 2 ^ (l.length - j)
  | 0, _ => by rw [keyN, Nat.sub_zero, Int.ediv_eq_zero_of_lt k0 k1]
  | j + 1, h => by
    have hj : j < l.length := h
    have ih := key_nums hl k0 k1 j (by omega)
    have hg : l.getD j 0 = l[j] := by rw [List.getD_eq_getElem?_getD, List.getElem?_eq_getElem hj]; rfl
    obtain ⟨c1, c2⟩ := hl _ (List.getElem_mem hj)
    rw [← hg] at c1 c2
    rw [keyN, ih, show (nums l key n l.length).getD (l.getD j 0 - 97) 0 = cellN l key (l.getD j 0 - 97) l.length by rw [List.getD_eq_getElem?_getD, nums_at (by omega)]; rfl]
    have d := cellN_div (l := l) (key := key) (k := l.getD j 0 - 97) (j := j + 1) (l.length - (j + 1)) (by omega)
    rw [show j + 1 + (l.length - (j + 1)) = l.length by omega, List.take_length, count_step hj, show 97 + (l.getD j 0 - 97) = l.getD j 0 by omega, if_pos rfl, ← Nat.sub_sub] at d
    rw [d, cellN, if_pos (by omega)]
    rw [show l.length - j = (l.length - (j + 1)) + 1 by omega, ediv_pow_succ']
    generalize key / 2 ^ (l.length - (j + 1)) = X
    omega
theorem key_back {l : List Nat} {key : Int} {n : Nat} (hl : ∀ c ∈ l, 97 ≤ c ∧ c < 97 + n) (k0 : 0 ≤ key) (k1 : key < 2 ^ l.length) : keyN l (nums l key n l.length) l.length = key := by
  rw [key_nums hl k0 k1 _ (Nat.le_refl _), Nat.sub_self, Int.pow_zero, Int.ediv_one]
theorem keyN_inj {l : List Nat} {n : Nat} {cs ds : List Int} (hc : CellOk l n cs) (hd : CellOk l n ds) (e : keyN l cs l.length = keyN l ds l.length) : cs = ds := by
  rw [← nums_key hc, ← nums_key hd, e]
theorem asc_range : ∀ (ns : List Int) (lo : Int), ns.Pairwise (· < ·) → (∀ x ∈ ns, lo ≤ x ∧ x < lo + ns.length) → ns = (List.range ns.length).map fun i => lo + (i : Nat)
  | [], _, _, _ => rfl
  | x :: xs, lo, hp, hb => by
    obtain ⟨h1, h2⟩ := List.pairwise_cons.mp hp
    have hx := hb x List.mem_cons_self
    have ih := asc_range xs (lo + 1) h2 fun y hy => by
      have a := h1 y hy
      have b := hb y (List.mem_cons_of_mem _ hy)
      rw [List.length_cons] at b
      omega
    have ex : x = lo := by
      cases xs with
      | nil =>
        simp only [List.length_cons, List.length_nil] at hx
        omega
      | cons y ys =>
        have a := h1 y List.mem_cons_self
        have : y = lo + 1 + ((0 : Nat) : Int) := by
          have := congrArg (fun l => l[0]?) ih
          simp only [List.length_cons, List.getElem?_cons_zero, List.getElem?_map, List.getElem?_range (show 0 < ys.length + 1 by omega), Option.map_some, Option.some.injEq] at this
          exact this
        omega
    rw [List.length_cons, List.range_succ_eq_map, List.map_cons, List.map_map]
    rw [ex]
    congr 1
    · simp
    · conv => lhs; rw [ih]
      apply List.map_congr_left
      intro i _
      simp only [Function.comp]
      omega
theorem sorted_range {ns ks : List Int} {N : Nat} (hp : ns.Perm ks) (hs : ns.Pairwise (· ≤ ·)) (hn : ks.Nodup) (hb : ∀ x ∈ ks, 0 ≤ x ∧ x < (N : Int)) (hl : ks.length = N) : ns = (List.range N).map fun i => ((i : Nat) : Int) := by
  have hnd : ns.Nodup := hp.nodup_iff.mpr hn
  have hlt : ns.Pairwise (· < ·) := (hs.and hnd).imp fun {a b} h => by
    have := h.1
    have := h.2
    omega
  have e := asc_range ns 0 hlt fun x hx => by
    have := hb x (hp.mem_iff.mp hx)
    rw [hp.length_eq, hl]
    omega
  rw [hp.length_eq, hl] at e
  conv => lhs; rw [e]
  apply List.map_congr_left
  intro i _
  omega

theorem WOk.sum {l : List Nat} {n : Nat} (h : WOk l n) : (cnts l n).sum = (l.length : Int) := by
  rw [cnts_sum, List.filter_eq_self.mpr]
  intro c hc
  exact decide_eq_true (h.rng c hc)
theorem shp_same {H H' : Hp} {x : Addr} {l : List Nat} {n : Nat} (h : shp K H x l n) (s : Same H H') : shp K H' x l n := by
  obtain ⟨dx, sh, h1, h2⟩ := h
  exact ⟨dx, sh, s _ _ h1, s _ _ h2⟩
theorem shp_but {H H' : Hp} {x D : Addr} {l : List Nat} {n : Nat} {zs : List V} (h : shp K H x l n) (b : But D H H') (hD : H D = some (.lst zs)) : shp K H' x l n := by
  obtain ⟨dx, sh, h1, h2⟩ := h
  exact ⟨dx, sh, b _ _ (fun z => by rw [z, hD] at h1; cases h1) h1, b _ _ (fun z => by rw [z, hD] at h2; cases h2) h2⟩
theorem shp_br {H H' : Hp} {x a : Addr} {l : List Nat} {n m : Nat} (h : shp K H x l n) (B : Br a m H) (b : But a H H') : shp K H' x l n := by
  obtain ⟨o, h1, _, _, _, e, _⟩ := B
  exact shp_but h b (by rw [h1, e])
theorem Br.at {a p : Addr} {n : Nat} {H : Hp} {o : HO} (h : Br a n H) (np : p ≠ a) : Br a n (upd H p o) := by
  obtain ⟨u, h1, h2⟩ := h
  exact ⟨u, upd_at np.symm h1, h2⟩
theorem Br.keepT {K : PySem.W.Frag} {a p : Addr} {n : Nat} {H H' : Hp} {xs : List V} (h : Br a n H) (b : But a H H') (t : SqT K H p xs) : SqT K H' p xs := by
  obtain ⟨o, h1, x, y, z, e, _⟩ := h
  exact b.sqT (by rw [h1, e]) t
theorem Br.tups {a : Addr} {n : Nat} {H H' : Hp} {xs : List V} {ts : List (List V)} (h : Br a n H) (b : But a H H') (t : TupsAt H xs ts) : TupsAt H' xs ts := by
  obtain ⟨o, h1, x, y, z, e, _⟩ := h
  exact t.but b (by rw [h1, e])
theorem Br.keep {a p : Addr} {n : Nat} {H H' : Hp} {xs : List V} (h : Br a n H) (b : But a H H') (t : H p = some (.tup xs)) : H' p = some (.tup xs) := by
  obtain ⟨o, h1, x, y, z, e, _⟩ := h
  exact b.keepT (by rw [h1, e]) t
theorem cells_bit {m : Nat} (h : m ≤ 120) : (2 : Int) ^ m < 2 ^ (1000 : Nat) := by
  have := pow_le (a := m) (b := 120) h
  have : (2 : Int) ^ 120 < 2 ^ (1000 : Nat) := by decide +kernel
  omega
structure ShOk (sh : List Int) : Prop where
  n1 : 1 ≤ sh.length
  n4 : sh.length ≤ 4
  bt : ∀ b ∈ sh, 1 ≤ b ∧ b ≤ 120
  sm : sh.sum ≤ 240
/-- what is left of each axis behind these letters -/
def lft (sh : List Int) (l : List Nat) : List Int := (List.range sh.length).map fun k => sh.getD k 0 - (l.count (97 + k) : Nat)
theorem lft_len (sh : List Int) (l : List Nat) : (lft sh l).length = sh.length := by
  unfold lft
  rw [List.length_map, List.length_range]
theorem lft_at {sh : List Int} {l : List Nat} {k : Nat} (h : k < sh.length) : (lft sh l)[k]? = some (sh.getD k 0 - (l.count (97 + k) : Nat)) := by
  unfold lft
  rw [List.getElem?_map, List.getElem?_range h]
  rfl
theorem lft_get {sh : List Int} {l : List Nat} {k : Nat} (h : k < sh.length) : (lft sh l).getD k 0 = sh.getD k 0 - (l.count (97 + k) : Nat) := by
  rw [List.getD_eq_getElem?_getD, lft_at h]
  rfl
theorem getD_self (sh : List Int) : ((List.range sh.length).map fun k => sh.getD k 0) = sh := by
  apply List.ext_getElem?
  intro k
  by_cases h : k < sh.length
  · rw [List.getElem?_map, List.getElem?_range h, List.getElem?_eq_getElem h, Option.map_some, List.getD_eq_getElem?_getD, List.getElem?_eq_getElem h]
    rfl
  · rw [List.getElem?_eq_none (by rw [List.length_map, List.length_range]; omega), List.getElem?_eq_none (by omega)]
theorem lft_nil (sh : List Int) : lft sh [] = sh := by
  have e := getD_self sh
  unfold lft
  simp only [List.count_nil]
  simpa using e
theorem lft_snoc {sh : List Int} {l : List Nat} {k : Nat} (h : k < sh.length) : lft sh (l ++ [97 + k]) = (lft sh l).set k ((lft sh l).getD k 0 - 1) := by
  apply List.ext_getElem?
  intro j
  by_cases hj : j < sh.length
  · rw [lft_at hj]
    by_cases e : j = k
    · subst e
      rw [List.getElem?_set_self (by rw [lft_len]; exact hj), lft_get hj, List.count_append, List.count_singleton_self]
      congr 1
      omega
    · rw [List.getElem?_set_ne (by omega), lft_at hj, List.count_append, List.count_singleton, if_neg (by rw [beq_iff_eq]; omega), Nat.add_zero]
  · rw [List.getElem?_eq_none (by rw [lft_len]; omega), List.getElem?_eq_none (by rw [List.length_set, lft_len]; omega)]
theorem sum_sub_range (f g : Nat → Int) : ∀ n : Nat, ((List.range n).map fun k => f k - g k).sum = ((List.range n).map f).sum - ((List.range n).map g).sum
  | 0 => rfl
  | n + 1 => by
    simp only [List.range_succ, List.map_append, List.sum_append, List.map_cons, List.map_nil, List.sum_singleton, sum_sub_range f g n]
    omega
theorem lft_sum {sh : List Int} {l : List Nat} (h : ∀ c ∈ l, 97 ≤ c ∧ c < 97 + sh.length) : (lft sh l).sum = sh.sum - (l.length : Int) := by
  unfold lft
  rw [sum_sub_range, getD_self]
  have e := cnts_sum l sh.length
  unfold cnts at e
  rw [e, List.filter_eq_self.mpr fun c hc => decide_eq_true (h c hc)]
theorem sumNN : ∀ xs : List Int, (∀ x ∈ xs, 0 ≤ x) → 0 ≤ xs.sum
  | [], _ => Int.le_refl _
  | x :: xs, h => by
    rw [List.sum_cons]
    have := sumNN xs fun y hy => h y (List.mem_cons_of_mem _ hy)
    have := h x List.mem_cons_self
    omega
theorem sum_pos_ex : ∀ xs : List Int, (∀ x ∈ xs, 0 ≤ x) → 0 < xs.sum → ∃ k, k < xs.length ∧ 0 < xs.getD k 0
  | [], _, h => absurd h (by decide)
  | x :: xs, h, hs => by
    rw [List.sum_cons] at hs
    by_cases e : 0 < x
    · exact ⟨0, by rw [List.length_cons]; omega, e⟩
    · obtain ⟨k, h1, h2⟩ := sum_pos_ex xs (fun y hy => h y (List.mem_cons_of_mem _ hy)) (by omega)
      exact ⟨k + 1, by rw [List.length_cons]; omega, h2⟩
theorem sum_zero_all : ∀ xs : List Int, (∀ x ∈ xs, 0 ≤ x) → xs.sum = 0 → ∀ x ∈ xs, x = 0
  | [], _, _, x, hx => by cases hx
  | y :: xs, h, hs, x, hx => by
    rw [List.sum_cons] at hs
    have h0 := sumNN xs fun y hy => h y (List.mem_cons_of_mem _ hy)
    have h1 := h y List.mem_cons_self
    rcases List.mem_cons.mp hx with e | e
    · omega
    · exact sum_zero_all xs (fun y hy => h y (List.mem_cons_of_mem _ hy)) (by omega) x e
theorem memG {xs : List Int} {x : Int} (h : x ∈ xs) : ∃ k, k < xs.length ∧ xs.getD k 0 = x := by
  obtain ⟨k, hk⟩ := List.mem_iff_getElem?.mp h
  obtain ⟨hl, _⟩ := List.getElem?_eq_some_iff.mp hk
  exact ⟨k, hl, by rw [List.getD_eq_getElem?_getD, hk]; rfl⟩
theorem gMem {xs : List Int} {k : Nat} (h : k < xs.length) : xs.getD k 0 ∈ xs := by
  rw [List.getD_eq_getElem?_getD, List.getElem?_eq_getElem h]
  exact List.getElem_mem h
theorem ShOk.at {sh : List Int} (h : ShOk sh) {k : Nat} (hk : k < sh.length) : 1 ≤ sh.getD k 0 ∧ sh.getD k 0 ≤ 120 := h.bt _ (gMem hk)
theorem lft_done {sh : List Int} {l : List Nat} (h : ShOk sh) (ha : ∀ c ∈ l, 97 ≤ c ∧ c < 97 + sh.length) (hl : (l.length : Int) = sh.sum) (h0 : ∀ k, k < sh.length → 0 ≤ (lft sh l).getD k 0) : WOk l sh.length ∧ cnts l sh.length = sh := by
  have z : ∀ k, k < sh.length → sh.getD k 0 = (l.count (97 + k) : Nat) := fun k hk => by
    have := sum_zero_all (lft sh l) (fun x hx => by
      obtain ⟨j, hj, rfl⟩ := memG hx
      exact h0 j (by rw [lft_len] at hj; exact hj)) (by rw [lft_sum ha]; omega) _ (gMem (k := k) (by rw [lft_len]; exact hk))
    rw [lft_get hk] at this
    omega
  refine ⟨⟨h.n1, h.n4, fun k hk => ?_, fun k hk => ?_, fun k hk _ => ?_, fun c hc => ?_, by have := h.sm; omega⟩, ?_⟩
  · have := z k hk
    have := (h.at hk).1
    omega
  · have := z k hk
    have := (h.at hk).2
    omega
  · apply List.count_eq_zero.mpr
    intro hm
    have := ha _ hm
    omega
  · have := ha c hc
    have := h.n4
    omega
  · apply List.ext_getElem?
    intro k
    by_cases hk : k < sh.length
    · rw [cnts_at hk, ← z k hk, List.getElem?_eq_getElem hk, List.getD_eq_getElem?_getD, List.getElem?_eq_getElem hk]
      rfl
    · rw [List.getElem?_eq_none (by rw [cnts_len]; omega), List.getElem?_eq_none (by omega)]
theorem abcd_get {x : Nat} (h : x < 4) : (Str.ofString "abcd").cps[x]? = some (97 + x) := by
  have e : (Str.ofString "abcd").cps = #[97, 98, 99, 100] := by decide +kernel
  rw [e]
  match x, h with
  | 0, _ => rfl
  | 1, _ => rfl
  | 2, _ => rfl
  | 3, _ => rfl
def grow (b : Nat) (acc : List (List Int)) : List (List Int) := acc.flatMap fun c => (List.range (2 ^ b)).map fun v => c ++ [((v : Nat) : Int)]
def cellsOf (sh : List Int) : List (List Int) := sh.foldl (fun acc b => grow b.toNat acc) [[]]
theorem cellsOf_snoc (sh : List Int) (b : Int) : cellsOf (sh ++ [b]) = grow b.toNat (cellsOf sh) := by
  unfold cellsOf
  rw [List.foldl_append]
  rfl
theorem grow_len (b : Nat) (acc : List (List Int)) : (grow b acc).length = acc.length * 2 ^ b := by
  unfold grow
  rw [List.length_flatMap]
  simp [List.map_const']
theorem grow_snoc (b : Nat) (acc : List (List Int)) (c : List Int) : grow b (acc ++ [c]) = grow b acc ++ (List.range (2 ^ b)).map fun v => c ++ [((v : Nat) : Int)] := by
  unfold grow
  rw [List.flatMap_append]
  simp
def BoundC (sh : List Int) (c : List Int) : Prop := c.length = sh.length ∧ ∀ k, k < sh.length → 0 ≤ c.getD k 0 ∧ c.getD k 0 < 2 ^ (sh.getD k 0).toNat
theorem mem_grow {b : Nat} {acc : List (List Int)} {c : List Int} (h : c ∈ grow b acc) : ∃ d v, d ∈ acc ∧ v < 2 ^ b ∧ c = d ++ [((v : Nat) : Int)] := by
  unfold grow at h
  rw [List.mem_flatMap] at h
  obtain ⟨d, hd, h⟩ := h
  obtain ⟨v, hv, rfl⟩ := List.mem_map.mp h
  exact ⟨d, v, hd, List.mem_range.mp hv, rfl⟩
theorem cellsOf_all : ∀ (m : Nat) (sh : List Int), m ≤ sh.length → ∀ c ∈ cellsOf (sh.take m), c.length = m ∧ ∀ k, k < m → 0 ≤ c.getD k 0 ∧ c.getD k 0 < 2 ^ (sh.getD k 0).toNat
  | 0, sh, _, c, hc => by
    have : c = [] := by
      rw [List.take_zero] at hc
      exact List.mem_singleton.mp hc
    rw [this]
    exact ⟨rfl, fun k hk => absurd hk (by omega)⟩
  | m + 1, sh, hm, c, hc => by
    rw [List.take_succ_eq_append_getElem hm, cellsOf_snoc] at hc
    obtain ⟨d, v, hd, hv, rfl⟩ := mem_grow hc
    obtain ⟨h1, h2⟩ := cellsOf_all m sh (by omega) d hd
    refine ⟨by rw [List.length_append, h1]; rfl, fun k hk => ?_⟩
    by_cases e : k < m
    · rw [getD_snoc_lt (by omega)]
      exact h2 k e
    · have : k = m := by omega
      subst this
      rw [getD_snoc_eq h1.symm, show sh.getD k 0 = sh[k] by rw [List.getD_eq_getElem?_getD, List.getElem?_eq_getElem hm]; rfl, pow_nat]
      omega
theorem cellsOf_bound {sh : List Int} {c : List Int} (h : c ∈ cellsOf sh) : BoundC sh c := by
  have := cellsOf_all sh.length sh (Nat.le_refl _) c (by rw [List.take_length]; exact h)
  exact this
theorem nodup_flatMap {α β : Type} (f : α → List β) : ∀ l : List α, l.Nodup → (∀ x ∈ l, (f x).Nodup) → (∀ x ∈ l, ∀ y ∈ l, ∀ z, z ∈ f x → z ∈ f y → x = y) → (l.flatMap f).Nodup
  | [], _, _, _ => List.nodup_nil
  | x :: l, h, h1, h2 => by
    obtain ⟨a, b⟩ := List.nodup_cons.mp h
    rw [List.flatMap_cons, List.nodup_append]
    refine ⟨h1 x List.mem_cons_self, nodup_flatMap f l b (fun y hy => h1 y (List.mem_cons_of_mem _ hy)) fun y hy z hz => h2 y (List.mem_cons_of_mem _ hy) z (List.mem_cons_of_mem _ hz), ?_⟩
    intro u hu v hv e
    subst e
    obtain ⟨y, hy, hz⟩ := List.mem_flatMap.mp hv
    have := h2 x List.mem_cons_self y (List.mem_cons_of_mem _ hy) u hu hz
    rw [this] at a
    exact a hy
theorem grow_nodup {b m : Nat} {acc : List (List Int)} (h : acc.Nodup) (hl : ∀ c ∈ acc, c.length = m) : (grow b acc).Nodup := by
  refine nodup_flatMap _ acc h (fun c hc => ?_) fun c hc d hd z h1 h2 => ?_
  · rw [List.nodup_iff_pairwise_ne, List.pairwise_map]
    refine List.Pairwise.imp ?_ (List.nodup_iff_pairwise_ne.mp List.nodup_range)
    intro x y hxy e
    have := List.append_cancel_left e
    simp only [List.cons.injEq, and_true] at this
    omega
  · obtain ⟨v, _, rfl⟩ := List.mem_map.mp h1
    obtain ⟨u, _, e⟩ := List.mem_map.mp h2
    exact (List.append_inj e (by rw [hl c hc, hl d hd])).1.symm
theorem cellsOf_nodup : ∀ (m : Nat) (sh : List Int), m ≤ sh.length → (cellsOf (sh.take m)).Nodup
  | 0, sh, _ => by
    rw [List.take_zero]
    exact List.nodup_cons.mpr ⟨by simp, List.nodup_nil⟩
  | m + 1, sh, hm => by
    rw [List.take_succ_eq_append_getElem hm, cellsOf_snoc]
    exact grow_nodup (cellsOf_nodup m sh (by omega)) fun c hc => (cellsOf_all m sh (by omega) c hc).1
theorem cellsOf_len : ∀ (m : Nat) (sh : List Int), m ≤ sh.length → (∀ b ∈ sh, 0 ≤ b) → (cellsOf (sh.take m)).length = 2 ^ (sh.take m).sum.toNat ∧ 0 ≤ (sh.take m).sum
  | 0, sh, _, _ => by
    rw [List.take_zero]
    exact ⟨rfl, Int.le_refl _⟩
  | m + 1, sh, hm, h0 => by
    obtain ⟨h1, h2⟩ := cellsOf_len m sh (by omega) h0
    have hb := h0 _ (List.getElem_mem hm)
    rw [List.take_succ_eq_append_getElem hm, cellsOf_snoc, grow_len, h1, List.sum_append, List.sum_singleton, Int.toNat_add h2 hb, Nat.pow_add]
    exact ⟨rfl, by omega⟩
theorem mem_le_sum : ∀ (xs : List Int), (∀ x ∈ xs, 0 ≤ x) → ∀ x ∈ xs, x ≤ xs.sum
  | [], _, x, hx => by cases hx
  | y :: xs, h, x, hx => by
    rw [List.sum_cons]
    have h0 := sumNN xs fun y hy => h y (List.mem_cons_of_mem _ hy)
    have h1 := h y List.mem_cons_self
    rcases List.mem_cons.mp hx with e | e
    · omega
    · have := mem_le_sum xs (fun y hy => h y (List.mem_cons_of_mem _ hy)) x e
      omega
theorem sum_take_le (xs : List Int) (h : ∀ x ∈ xs, 0 ≤ x) (m : Nat) : (xs.take m).sum ≤ xs.sum := by
  have e : xs.sum = (xs.take m).sum + (xs.drop m).sum := by rw [← List.sum_append, List.take_append_drop]
  have := sumNN (xs.drop m) fun y hy => h y (List.mem_of_mem_drop hy)
  omega
theorem map_int_snoc (c : List Int) (v : Int) : c.map V.int ++ [.int v] = (c ++ [v]).map V.int := by
  rw [List.map_append]
  rfl
theorem catA {X : Cx} (K : PySem.W.Frag) (h : X.K = K := by rfl) : OpR X (binaryOp .Add) (rCatA K) := by
  subst h
  exact op_catA
theorem catA_do {H : Hp} {a b : Addr} {xs : List V} {y : V} {Q : VK} (ha : SqT K H a xs) (hb : H b = some (.tup [y])) (hl : xs.length ≤ 1000) (q : ∀ r H', Same H H' → H' r = some (.tup (xs ++ [y])) → Q (.ref r) H') : rCatA K (.ref a) (.ref b) H Q := by
  refine ⟨a, b, xs, [y], rfl, rfl, ha, sqT_of hb, le_size (by show xs.length + 1 ≤ _; omega), fun e => ?_, fun _ e => absurd e (by simp), fun _ _ p np => ?_⟩
  · subst e
    exact q b H (fun _ _ h => h) hb
  · exact q p _ (same_new np) upd_same
theorem CellOk.of {sh cs : List Int} {l : List Nat} (e : cnts l sh.length = sh) (h : BoundC sh cs) : CellOk l sh.length cs := by
  refine ⟨h.1, fun k hk => (h.2 k hk).1, fun k hk => ?_⟩
  have := (h.2 k hk).2
  have g : sh.getD k 0 = (l.count (97 + k) : Nat) := by
    have h1 := cnts_at (l := l) hk
    rw [e] at h1
    rw [List.getD_eq_getElem?_getD, h1]
    rfl
  rw [g, Int.toNat_natCast] at this
  exact this
theorem BoundC.nat {sh c : List Int} (hs : ShOk sh) (h : BoundC sh c) : ∀ i ∈ c, i.natAbs < 2 ^ 240 := fun i hi => by
  obtain ⟨k, hk, rfl⟩ := memG hi
  rw [h.1] at hk
  have h1 := h.2 k hk
  have h2 := hs.at hk
  exact nn_lt h1.1 (lt_pow h1.2 (by omega))
theorem rgV_nat (N : Nat) : rgV 0 ((N : Nat) : Int) = ((List.range N).map fun i => ((i : Nat) : Int)).map V.int := by
  unfold rgV
  rw [Int.sub_zero, Int.toNat_natCast, List.map_map]
  apply List.map_congr_left
  intro i _
  simp only [Function.comp, Int.zero_add]
end
end WK
/-! ## enumerate of a tuple -/
namespace WK
open PySem PySem.Spec PySem.W PyProof.Rows L2
set_option maxHeartbeats 4000000 in
theorem meets_enum1 {v : Value} {o : Obj} {H : Heap → Prop} (B : Begins v o H) :
    Meets (Builtin.«enumerate.__new__» ⟨[.type "enumerate", v], []⟩) (fun _ R s => H s.heap ∧
      R (.ok (.ret (.ref (s.heap.push o).objs.size))) { s with heap := (s.heap.push o).push { cls := .type "enumerate", data := .fields #[.none, .bool false, .ref s.heap.objs.size, rawInt 0, .none, .none] } }) :=
  .of_wp fun prog w A R s h => by
    obtain ⟨hp, g, d, tk, os⟩ := s; obtain ⟨h1, h⟩ := h
    have hsub := sub_enumerate
    have q1 : ∀ {A' : Around} {E : Value → Shared → Prop} {Q : Value → Shared → Prop}, Q (.ref hp.objs.size) ⟨hp.push o, g, d, tk, os⟩ → wpAny (model prog w) A' (pyIter v) Q E ⟨hp, g, d, tk, os⟩ :=
      fun q => B.iter prog w _ _ ⟨hp, g, d, tk, os⟩ _ h1 q
    wp_walk using q1
    refine wpAny_stack_any fun st => wpAny_pure ?_
    split
    · rename_i c _ _ _ _ _
      cases (c == Value.type "enumerate")
      · wp_walk using q1
        exact ⟨_, rfl, h⟩
      · wp_walk using q1
        exact ⟨_, rfl, h⟩
    · wp_walk using q1
      exact ⟨_, rfl, h⟩
theorem call_enum1 {prog : Program} {w : World} {A : Around} {E : Value → Shared → Prop} {s : Shared} {v : Value} {o : Obj} {H : Heap → Prop} {Q : Value → Shared → Prop} (B : Begins v o H) (h1 : H s.heap)
    (h : ∀ h', IsEnum h' (s.heap.objs.size + 1) s.heap.objs.size 0 .none → h'.get? s.heap.objs.size = some o → h'.objs.size = s.heap.objs.size + 2 →
      (∀ b o, s.heap.get? b = some o → h'.get? b = some o) → Q (.ref (s.heap.objs.size + 1)) { s with heap := h' }) :
    wpAny (model prog w) A (call (.type "enumerate") [v]) Q E s := by
  refine callType_new F.called_enumerate (by decide) (F.typeCall_enumerate_1 _) (F.newCall_enumerate_1 _) (fun obj => F.args_object_init_2 obj _) F.entry_enumerate_new
    (meets_enum1 B) ⟨h1, ?_⟩
  have hz : (s.heap.push o).objs.size = s.heap.objs.size + 1 := Heap.size_push ..
  show _ ∧ _
  rw [hz]
  have he : IsEnum ((s.heap.push o).push { cls := .type "enumerate", data := .fields #[.none, .bool false, .ref s.heap.objs.size, rawInt 0, .none, .none] }) (s.heap.objs.size + 1) s.heap.objs.size 0 .none := by
    have := Heap.get?_push_size (s.heap.push o) (o := { cls := .type "enumerate", data := .fields #[.none, .bool false, .ref s.heap.objs.size, rawInt 0, .none, .none] }) rfl
    rw [hz] at this; exact this
  refine ⟨⟨_, he, rfl⟩, h _ he (Heap.get?_push_of_some _ (Heap.get?_push_size _ B.free)) (by rw [Heap.size_push, hz]) fun b o x => Heap.get?_push_of_some _ (Heap.get?_push_of_some _ x)⟩
/-- the tuple at a as it stands, each item in a new pair -/
def IteT (K : PySem.W.Frag) (a : Addr) : It :=
  ⟨fun i H => ∃ (xs : List V) (x : V), SqT K H a xs ∧ xs[i]? = some x, fun i H v H' => ∃ T x, v = .ref T ∧ H T = none ∧ H' = upd H T (.tup [.int (i : Nat), x]) ∧ ∀ xs, SqT K H a xs → xs[i]? = some x, fun i H => ∃ xs : List V, SqT K H a xs ∧ xs.length ≤ i⟩
theorem turn_enumT {P : Program} {w : World} {K : PySem.W.Frag} {elts : List Expr} {kk : Nat} {tpos : Pos} (a e it : Addr) (hat : a ≠ it) (hae : a ≠ e) :
    Turn P w K (.Tuple elts kk tpos) (IteT K a) [e, it] e (fun i h => (∃ old, IsEnum h e it ((i : Nat) : Int) old) ∧ h.IsTupleIter it a i ∧ e ≠ it) where
  mem := by simp
  obj := fun i h st b hb => by
    obtain ⟨⟨old, he⟩, ⟨o, ho, hc, hd⟩, _⟩ := st
    have e' : b = e ∨ b = it := by simpa using hb
    rcases e' with z | z
    · rw [z]; exact ⟨_, he, fun v q => nomatch q⟩
    · rw [z]; exact ⟨o, ho, fun v q => by rw [hd] at q; cases q⟩
  keep := fun i h h' st k => let ⟨⟨old, he⟩, hi, hne⟩ := st; ⟨⟨old, k e (by simp) _ he⟩, hi.at fun o q => k it (by simp) o q, hne⟩
  item := by
    intro X hP hw hK hc i pins s σ H E I hf st hg
    subst hP hw hK
    obtain ⟨⟨old, he⟩, hit, hne⟩ := st
    obtain ⟨xs, x, hq, hx⟩ := hg
    obtain ⟨its, rv, p, hz⟩ := I.tuple hq
    obtain ⟨u, hu, ru⟩ := rv.get hx
    have hel : e < s.heap.objs.size := Heap.lt_size he
    have hil : it < s.heap.objs.size := by obtain ⟨_, q, _⟩ := hit; exact Heap.lt_size q
    have hlt : i < its.toArray.size := by
      rw [List.size_toArray, ← rv.length]
      exact (List.getElem?_eq_some_iff.mp hx).1
    refine wpAny_pyNext_enum_itemD (Draws.tuple (A := X.A.in1) (I.ok.hd hc) it a hat its.toArray) he ⟨hit, p⟩ hlt hne (by simp only [List.mem_cons, List.not_mem_nil, or_false]; rintro (z | z); exact hne z; exact hae z.symm) fun x' h' tk hPx ho hst' hT hsz hk => ?_
    obtain ⟨hit', _⟩ := hst'
    have eu : x' = u := by
      have h1 : its.toArray[i]? = some u := by simpa using hu
      rw [h1] at hPx
      exact (Option.some.inj hPx).symm
    subst eu
    refine ⟨_, rfl, wpAny_letOwnedTupleGo_enum (s := { s with heap := h', toks := tk + 1 }) ho fun h'' he' sb => ?_⟩
    have hT2 : h''.get? s.heap.objs.size = some { cls := .type "tuple", data := .seq #[.int i tk, x'] } := (sb.2 _ (Nat.ne_of_gt hel)).trans hT
    have new : ObjOk X.prog X.w (upd H s.heap.objs.size (.tup [.int (i : Nat), x])) h'' s.heap.objs.size (.tup [.int (i : Nat), x]) :=
      ⟨by show 2 ≤ sizeLine; decide, [.int i tk, x'], .cons ⟨_, rfl⟩ (.cons ru .nil), ⟨_, hT2, rfl, _, rfl⟩⟩
    have I1 : Inv X pins σ (upd H s.heap.objs.size (.tup [.int (i : Nat), x])) { s with heap := h'', toks := tk + 1 } :=
      I.turnedNew (ch := [e, it]) (fun b ob hb q => (sb.2 b (fun z => hb (by simp [z]))).trans (hk b ob (fun z => hb (by simp [z])) (fun z => hb (by simp [z])) q)) hf (Nat.le_refl _) new
    refine ⟨.ref s.heap.objs.size, _, I1, rfl, ⟨_, x, rfl, I.hok.fresh (Nat.le_refl _), rfl, fun ys hy => by rw [I.tuple_inj hy hq]; exact hx⟩, ⟨⟨x', ?_⟩, hit'.at fun o q => (sb.2 it (Ne.symm hne)).trans q, hne⟩, fun b hb => ?_⟩
    · have e1 : ((i + 1 : Nat) : Int) = (i : Int) + 1 := by omega
      rw [e1]; exact he'
    · have hb' : b < s.heap.objs.size := by
        have e' : b = e ∨ b = it := by simpa using hb
        rcases e' with z | z
        · rw [z]; exact hel
        · rw [z]; exact hil
      rw [upd_ne (Nat.ne_of_lt hb')]
      exact (hf b hb).1
  done := by
    intro X hP hw hK hc i pins s σ H E I hf st hg
    subst hP hw hK
    obtain ⟨⟨old, he⟩, hit, hne⟩ := st
    obtain ⟨xs, hq, hx⟩ := hg
    obtain ⟨its, rv, p, hz⟩ := I.tuple hq
    obtain ⟨f0, f1, f2, f3, f4, f5⟩ := hf it (by simp)
    have hl := rv.length
    have hT : s.TypeIs (.ref e) "enumerate" := ⟨_, he, rfl⟩
    unfold pyNext
    refine wpAny_bind (wpAny_attempt (wpAny_callSpecial?_slot (name := Str.ofString "__next__") hT F.slot_enumerate_next
      (wpAny_call_entry F.slot_enumerate_next hT F.entry_enumerate_next ?_ (F.args_enumerate_next_1 _))))
    show wpAny _ _ (field (.ref e) 2 >>= _) _ _ _
    refine wpAny_bind (wpAny_field he rfl (x := .ref it) rfl ?_)
    refine wpAny_bind (wpAny_nextOf_tuple_end (I.ok.hd hc) hit p (by simp; omega) fun h' x eb hx' => ?_)
    obtain ⟨o, ho, hc⟩ := hx'
    refine wpAny_bind (wpAny_isInstance (T := "StopIteration") (b := true) ⟨o, ho, hc⟩ isSubtype_stop ?_)
    exact wpAny_pure ⟨rfl, I.turned (t' := s.toks) (fun b o hb q => eb b o hb q) f0 f1 f3 f4 f5⟩
  self := fun A i s Q E st h => let ⟨⟨_, he⟩, _⟩ := st; wpAny_pyIter_enum he h
def iEnumT (K : PySem.W.Frag) (ta : TA) : TI := fun σ H R => ta σ H fun vs H1 => ∃ a xs, vs = [.ref a] ∧ SqT K H1 a xs ∧ R (IteT K a) H1
theorem piEnumT {X : Cx} (K : PySem.W.Frag) {e : Expr} {ta : TA} {p pos tpos : Pos} {elts : List Expr} {kk : Nat} (hm : X.mg "enumerate" = none) (ha : PA X [e] ta) (hK : X.K = K := by rfl) (hg : Gl X "enumerate" := by rfl) (hs : starEach [e] X.env = [(false, eval e X.env)] := by rfl) :
    PI X (.Tuple elts kk tpos) (.Call (.Name "enumerate" p) [e] [] pos) (iEnumT K ta) := by
  subst hK
  refine ⟨fun pins s σ H R I h => ?_⟩
  refine Call_ (ld_blt I hg hm boot_enumerate (PyProof.Rows.callWith_type1 (thn (ha.run pos pins s σ H _ I h) fun us s1 ⟨vs, H1, I1, r1, q1⟩ => ?_) hs rfl))
  obtain ⟨a, xs, ex, hq, q⟩ := q1
  subst ex
  cases r1 with
  | cons r rr =>
    cases rr
    cases r
    obtain ⟨its, rv, p', hz⟩ := I1.tuple hq
    have hal : a < s1.heap.objs.size := by
      obtain ⟨o, ho, _⟩ := id p'
      exact Heap.lt_size ho
    refine call_enum1 (begins_tuple a its.toArray) p' fun h' he hit hsz hk => wpAny_pyIter_enum he ?_
    have I2 : Inv X pins σ H1 { s1 with heap := h' } := I1.kept (t' := s1.toks) hk
    refine ⟨s1.heap.objs.size + 1, [s1.heap.objs.size + 1, s1.heap.objs.size], _, _, H1, rfl, I2, turn_enumT a (s1.heap.objs.size + 1) s1.heap.objs.size (Nat.ne_of_lt hal) (Nat.ne_of_lt (Nat.lt_succ_of_lt hal)), ⟨⟨.none, he⟩, ⟨_, hit, rfl, rfl⟩, Nat.succ_ne_self _⟩, fun b hb => ?_, q⟩
    have e' : b = s1.heap.objs.size + 1 ∨ b = s1.heap.objs.size := by simpa using hb
    have hle : s1.heap.objs.size ≤ b := by
      rcases e' with z | z
      · rw [z]; exact Nat.le_add_right _ _
      · rw [z]; exact Nat.le_refl _
    exact I1.fpOk hle (I1.hok.fresh hle)
theorem walk_enumT {K : PySem.W.Frag} {a : Addr} {xs : List V} : Walk (IteT K a) xs.length (fun H => SqT K H a xs) (YPair (fun i => some (.int (i : Nat))) (fun i => xs[i]?)) := by
  refine ⟨fun i _ hi q => ⟨xs, xs[i], q, by simp [hi]⟩, fun _ q => ⟨xs, q, Nat.le_refl _⟩, fun i H v H' _ q y => ?_⟩
  obtain ⟨T, x, h1, h2, h3, h4⟩ := y
  exact ⟨T, .int (i : Nat), x, h1, h2, h3, rfl, h4 xs q⟩
/-- enumerate of a list -/
theorem piEnum {X : Cx} (K : PySem.W.Frag) {e : Expr} {ta : TA} {p pos tpos : Pos} {elts : List Expr} {kk : Nat} (hm : X.mg "enumerate" = none) (ha : PA X [e] ta) (hK : X.K = K := by rfl) (hg : Gl X "enumerate" := by rfl) (hs : starEach [e] X.env = [(false, eval e X.env)] := by rfl) :
    PI X (.Tuple elts kk tpos) (.Call (.Name "enumerate" p) [e] [] pos) (iEnum K ta) := by
  subst hK
  exact pi_enum hg hm ha hs
end WK
/-! ## zip of a list or tuple with a list or tuple -/
namespace WK
open PySem PySem.Spec PySem.W PyProof.Rows L2 RZ
def SqX (K : PySem.W.Frag) : Bool → Hp → Addr → List V → Prop
  | true, H, a, xs => SqL K H a xs
  | false, H, a, xs => SqT K H a xs
def ItX : Bool → Heap → Addr → Addr → Nat → Prop
  | true, h, it, a, i => h.IsListIter it a i
  | false, h, it, a, i => h.IsTupleIter it a i
def ObX : Bool → Heap → Addr → Array Value → Prop
  | true, h, a, xs => h.IsList a xs
  | false, h, a, xs => h.IsTuple a xs
def bgX (k : Bool) (a : Addr) : Obj := match k with
  | true => { cls := .type "list_iterator", data := .fields #[.ref a, .int 0 0] }
  | false => { cls := .type "tuple_iterator", data := .fields #[.ref a, .int 0 0] }
theorem drX {prog : Program} {w : World} {A : Around} (hh : A.handled = none) (k : Bool) (it a : Addr) (hne : a ≠ it) (items : Array Value) : Draws prog w A it [it, a] items.size (fun i v => items[i]? = some v) (fun i h => ItX k h it a i ∧ ObX k h a items) := by
  cases k
  · exact Draws.tuple hh it a hne items
  · exact Draws.list hh it a hne items
theorem begX (k : Bool) (a : Addr) (items : Array Value) : Begins (.ref a) (bgX k a) fun h => ObX k h a items := by
  cases k
  · exact begins_tuple a items
  · exact begins_list a items
theorem itX0 {k : Bool} {h : Heap} {it a : Addr} (e : h.get? it = some (bgX k a)) : ItX k h it a 0 := by
  cases k
  · exact ⟨_, e, rfl, rfl⟩
  · exact ⟨_, e, rfl, rfl⟩
theorem ItX.at {k : Bool} {h h' : Heap} {it a : Addr} {i : Nat} (x : ItX k h it a i) (e : ∀ o, h.get? it = some o → h'.get? it = some o) : ItX k h' it a i := by
  cases k
  · exact Heap.IsTupleIter.at x e
  · exact Heap.IsListIter.at x e
theorem ItX.ob {k : Bool} {h : Heap} {it a : Addr} {i : Nat} (x : ItX k h it a i) : ∃ o, h.get? it = some o ∧ ∀ v q, o.data = .fields v → o.data = q → ∃ vs, q = .fields vs := by
  cases k <;> obtain ⟨o, e, _, d⟩ := x <;> exact ⟨o, e, fun v q h1 h2 => ⟨v, by rw [← h2, h1]⟩⟩
section
variable {X : Cx} {pins : List (Addr × Obj)} {σ : L2.St} {H : Hp} {s : Shared}
theorem inv_seqX (I : Inv X pins σ H s) {k : Bool} {a : Addr} {xs : List V} (h : SqX X.K k H a xs) : ∃ its : List Value, Vals xs its ∧ ObX k s.heap a its.toArray ∧ a < s.heap.objs.size := by
  cases k
  · obtain ⟨its, rv, p, _⟩ := I.tuple h
    obtain ⟨o, ho, _⟩ := id p
    exact ⟨its, rv, p, Heap.lt_size ho⟩
  · obtain ⟨its, rv, p, _⟩ := I.list h
    obtain ⟨o, ho, _⟩ := id p.isList
    exact ⟨its, rv, p.isList, Heap.lt_size ho⟩
theorem inv_injX (I : Inv X pins σ H s) {k : Bool} {a : Addr} {xs ys : List V} (h : SqX X.K k H a xs) (h' : SqX X.K k H a ys) : xs = ys := by
  cases k
  · exact I.tuple_inj h h'
  · exact I.list_inj h h'
end
def ItzM (K : PySem.W.Frag) (ka kb : Bool) (a b : Addr) : It :=
  ⟨fun i H => ∃ (xs ys : List V) (x y : V), SqX K ka H a xs ∧ SqX K kb H b ys ∧ xs[i]? = some x ∧ ys[i]? = some y,
    fun i H v H' => ∃ T x y, v = .ref T ∧ H T = none ∧ H' = upd H T (.tup [x, y]) ∧ (∀ xs, SqX K ka H a xs → xs[i]? = some x) ∧ ∀ ys, SqX K kb H b ys → ys[i]? = some y,
    fun i H => ∃ xs ys : List V, SqX K ka H a xs ∧ SqX K kb H b ys ∧ (xs.length = i ∨ ys.length = i) ∧ i ≤ xs.length ∧ i ≤ ys.length⟩
theorem turn_zipM {P : Program} {w : World} {K : PySem.W.Frag} {elts : List Expr} {kk : Nat} {tpos : Pos} {ka kb : Bool} {a b z TI TO i1 i2 : Addr} (S : ZipSep2 z TI TO i1 i2 [i1, a] [i2, b]) (ha : a ≠ i1) (hb : b ≠ i2) :
    Turn P w K (.Tuple elts kk tpos) (ItzM K ka kb a b) [z, TI, TO, i1, i2] z (fun i h => IsZip h z TI TO .none ∧ IsTupOf2 h TI (.ref i1) (.ref i2) ∧ (∃ x y, IsTupOf2 h TO x y) ∧ ItX ka h i1 a i ∧ ItX kb h i2 b i) where
  mem := by simp
  obj := fun i h st c hc => by
    obtain ⟨hz, hTI, ⟨x, y, hTO⟩, h1, h2⟩ := st
    have e' : c = z ∨ c = TI ∨ c = TO ∨ c = i1 ∨ c = i2 := by simpa using hc
    rcases e' with q | q | q | q | q
    · rw [q]; exact ⟨_, hz, fun v q => nomatch q⟩
    · rw [q]; exact ⟨_, hTI, fun v q => nomatch q⟩
    · rw [q]; exact ⟨_, hTO, fun v q => nomatch q⟩
    · rw [q]
      cases ka <;> obtain ⟨o1, e1, _, d1⟩ := h1 <;> exact ⟨o1, e1, fun v q => by rw [d1] at q; cases q⟩
    · rw [q]
      cases kb <;> obtain ⟨o1, e1, _, d1⟩ := h2 <;> exact ⟨o1, e1, fun v q => by rw [d1] at q; cases q⟩
  keep := fun i h h' st k => by
    obtain ⟨hz, hTI, ⟨x, y, hTO⟩, h1, h2⟩ := st
    exact ⟨k z (by simp) _ hz, k TI (by simp) _ hTI, ⟨x, y, k TO (by simp) _ hTO⟩, h1.at fun o q => k i1 (by simp) o q, h2.at fun o q => k i2 (by simp) o q⟩
  item := by
    intro X hP hw hK hc i pins s σ H E I hf st hg
    subst hP hw hK
    obtain ⟨hz, hTI, ⟨x0, y0, hTO⟩, h1, h2⟩ := st
    obtain ⟨xs, ys, x, y, hqx, hqy, hx, hy⟩ := hg
    obtain ⟨its, rv, p, _⟩ := inv_seqX I hqx
    obtain ⟨its2, rv2, p2, _⟩ := inv_seqX I hqy
    obtain ⟨u, hu, ru⟩ := rv.get hx
    obtain ⟨u2, hu2, ru2⟩ := rv2.get hy
    have hzl : z < s.heap.objs.size := Heap.lt_size hz
    have l1 : i < its.toArray.size := by
      rw [List.size_toArray, ← rv.length]
      exact (List.getElem?_eq_some_iff.mp hx).1
    have l2 : i < its2.toArray.size := by
      rw [List.size_toArray, ← rv2.length]
      exact (List.getElem?_eq_some_iff.mp hy).1
    have e1l : ∃ o, s.heap.get? i1 = some o := let ⟨o, e, _⟩ := h1.ob; ⟨o, e⟩
    have e2l : ∃ o, s.heap.get? i2 = some o := let ⟨o, e, _⟩ := h2.ob; ⟨o, e⟩
    refine wpAny_pyNext_zipD2_item S (drX (A := X.A.in1) (I.ok.hd hc) ka i1 a ha its.toArray) (drX (A := X.A.in1) (I.ok.hd hc) kb i2 b hb its2.toArray) hz hTI hTO ⟨h1, p⟩ ⟨h2, p2⟩ l1 l2 fun y1 y2 h' tk hP1 hP2 z' TO' st1' st2' hT hsz hk => ?_
    have eu1 : y1 = u := by
      have h1 : its.toArray[i]? = some u := by simpa using hu
      rw [h1] at hP1
      exact (Option.some.inj hP1).symm
    have eu2 : y2 = u2 := by
      have h1 : its2.toArray[i]? = some u2 := by simpa using hu2
      rw [h1] at hP2
      exact (Option.some.inj hP2).symm
    subst eu1 eu2
    refine ⟨_, rfl, wpAny_letOwnedTupleGo_zip (s := { s with heap := h', toks := tk }) z' fun h'' z'' sb => ?_⟩
    have hT2 : h''.get? s.heap.objs.size = some { cls := .type "tuple", data := .seq #[y1, y2] } := (sb.2 _ (Nat.ne_of_gt hzl)).trans hT
    have new : ObjOk X.prog X.w (upd H s.heap.objs.size (.tup [x, y])) h'' s.heap.objs.size (.tup [x, y]) :=
      ⟨by show 2 ≤ sizeLine; decide, [y1, y2], .cons ru (.cons ru2 .nil), ⟨_, hT2, rfl, _, rfl⟩⟩
    have I1 : Inv X pins σ (upd H s.heap.objs.size (.tup [x, y])) { s with heap := h'', toks := tk } :=
      I.turnedNew (t' := tk) (ch := [z, TI, TO, i1, i2]) (fun c o hb q => (sb.2 c (fun q' => hb (by simp [q']))).trans (hk c o (fun q' => hb (by simp [q'])) (fun q' => hb (by simp [q'])) (fun q' => hb (by simp [q'])) (fun q' => hb (by simp [q'])) q)) hf (Nat.le_refl _) new
    refine ⟨.ref s.heap.objs.size, _, I1, rfl, ⟨_, x, y, rfl, I.hok.fresh (Nat.le_refl _), rfl, fun l hl => by rw [inv_injX I hl hqx]; exact hx, fun l hl => by rw [inv_injX I hl hqy]; exact hy⟩, ⟨z'', ?_, ⟨y1, y2, ?_⟩, ?_, ?_⟩, fun c hcm => ?_⟩
    · exact (sb.2 _ S.TIz).trans (hk _ _ S.TIz S.TITO S.TIi1 S.TIi2 hTI)
    · exact (sb.2 _ S.TOz).trans TO'
    · exact st1'.1.at fun o q => (sb.2 _ (Ne.symm S.zi1)).trans q
    · exact st2'.1.at fun o q => (sb.2 _ (Ne.symm S.zi2)).trans q
    · have hlt : c < s.heap.objs.size := by
        have e' : c = z ∨ c = TI ∨ c = TO ∨ c = i1 ∨ c = i2 := by simpa using hcm
        rcases e' with q | q | q | q | q
        · rw [q]; exact hzl
        · rw [q]; exact Heap.lt_size hTI
        · rw [q]; exact Heap.lt_size hTO
        · rw [q]; obtain ⟨_, e1⟩ := e1l; exact Heap.lt_size e1
        · rw [q]; obtain ⟨_, e2⟩ := e2l; exact Heap.lt_size e2
      rw [upd_ne (Nat.ne_of_lt hlt)]
      exact (hf c hcm).1
  done := by
    intro X hP hw hK hc i pins s σ H E I hf st hg
    subst hP hw hK
    obtain ⟨hz, hTI, ⟨x0, y0, hTO⟩, h1, h2⟩ := st
    obtain ⟨xs, ys, hqx, hqy, hend, hi1, hi2⟩ := hg
    obtain ⟨its, rv, p, _⟩ := inv_seqX I hqx
    obtain ⟨its2, rv2, p2, _⟩ := inv_seqX I hqy
    have l1 := rv.length
    have l2 := rv2.length
    exact wpAny_pyNext_zipD2_end S (drX (A := X.A.in1) (I.ok.hd hc) ka i1 a ha its.toArray) (drX (A := X.A.in1) (I.ok.hd hc) kb i2 b hb its2.toArray) hz hTI hTO ⟨h1, p⟩ ⟨h2, p2⟩ (by simp; omega) (by simp; omega) (by simp; omega) fun h' tk hk => ⟨rfl, I.turnedL (t' := tk) (ch := [z, TI, TO, i1, i2]) (fun c o hb q =>
      hk c o (fun q' => hb (by simp [q'])) (fun q' => hb (by simp [q'])) (fun q' => hb (by simp [q'])) (fun q' => hb (by simp [q'])) q) hf⟩
  self := fun A i s Q E st h => wpAny_pyIter_zip st.1 h
def iZipM (K : PySem.W.Frag) (ka kb : Bool) (ta : TA) : TI := fun σ H R => ta σ H fun vs H1 => ∃ a b xs ys, vs = [.ref a, .ref b] ∧ SqX K ka H1 a xs ∧ SqX K kb H1 b ys ∧ R (ItzM K ka kb a b) H1
theorem piZipM {X : Cx} (K : PySem.W.Frag) (ka kb : Bool) {e e2 : Expr} {ta : TA} {p pos tpos : Pos} {elts : List Expr} {kk : Nat} (hm : X.mg "zip" = none) (ha : PA X [e, e2] ta) (hK : X.K = K := by rfl) (hg : Gl X "zip" := by rfl)
    (hs : starEach [e, e2] X.env = (false, eval e X.env) :: starEach [e2] X.env := by rfl) (hpl : (backTo pos (starEach [e2] X.env)).any (·.1) = false := by rfl) :
    PI X (.Tuple elts kk tpos) (.Call (.Name "zip" p) [e, e2] [] pos) (iZipM K ka kb ta) := by
  subst hK
  refine ⟨fun pins s σ H R I h => ?_⟩
  refine Call_ (ld_blt I hg hm PyProof.Rows.boot_zip (PyProof.Rows.callWith_type1 (thn (ha.run pos pins s σ H _ I h) fun us s1 ⟨vs, H1, I1, r1, q1⟩ => ?_) hs hpl))
  obtain ⟨a, b, xs, ys, ex, hqx, hqy, q⟩ := q1
  subst ex
  cases r1 with
  | cons r rr =>
    cases rr with
    | cons r' rr =>
      cases rr
      cases r
      cases r'
      have fresh5 : ∀ c, c ∈ [s1.heap.objs.size + 4, s1.heap.objs.size + 2, s1.heap.objs.size + 3, s1.heap.objs.size, s1.heap.objs.size + 1] → FpOk X pins H1 c := fun c hcm => by
        have e' : c = s1.heap.objs.size + 4 ∨ c = s1.heap.objs.size + 2 ∨ c = s1.heap.objs.size + 3 ∨ c = s1.heap.objs.size ∨ c = s1.heap.objs.size + 1 := by simpa using hcm
        have hle : s1.heap.objs.size ≤ c := by
          rcases e' with z | z | z | z | z
          · rw [z]; exact Nat.le_add_right _ _
          · rw [z]; exact Nat.le_add_right _ _
          · rw [z]; exact Nat.le_add_right _ _
          · rw [z]; exact Nat.le_refl _
          · rw [z]; exact Nat.le_add_right _ _
        exact I1.fpOk hle (I1.hok.fresh hle)
      obtain ⟨its, rv, p1, hal⟩ := inv_seqX I1 hqx
      obtain ⟨its2, rv2, p2, hbl⟩ := inv_seqX I1 hqy
      refine zip_begins2 (begX ka a its.toArray) (begX kb b its2.toArray) p1 p2 fun h' hz hTI hTO h1 h2 hsz hk => wpAny_pyIter_zip hz ?_
      have I2 : Inv X pins σ H1 { s1 with heap := h' } := I1.kept (t' := s1.toks) hk
      have S : ZipSep2 (s1.heap.objs.size + 4) (s1.heap.objs.size + 2) (s1.heap.objs.size + 3) s1.heap.objs.size (s1.heap.objs.size + 1) [s1.heap.objs.size, a] [s1.heap.objs.size + 1, b] :=
        zip_sep2 (fun c hc => by rw [List.mem_singleton.mp hc]; exact hal) (fun c hc => by rw [List.mem_singleton.mp hc]; exact hbl)
      exact ⟨s1.heap.objs.size + 4, [s1.heap.objs.size + 4, s1.heap.objs.size + 2, s1.heap.objs.size + 3, s1.heap.objs.size, s1.heap.objs.size + 1], _, _, H1, rfl, I2, turn_zipM S (Nat.ne_of_lt hal) (Nat.ne_of_lt (Nat.lt_succ_of_lt hbl)), ⟨hz, hTI, ⟨_, _, hTO⟩, itX0 h1, itX0 h2⟩, fresh5, q⟩
theorem walk_zipM {K : PySem.W.Frag} {ka kb : Bool} {a b : Addr} {xs ys : List V} {n : Nat} (hn : n = min xs.length ys.length) : Walk (ItzM K ka kb a b) n (fun H => SqX K ka H a xs ∧ SqX K kb H b ys) (YPair (fun i => xs[i]?) (fun i => ys[i]?)) := by
  subst hn
  refine ⟨fun i _ hi q => ⟨xs, ys, xs[i]'(by omega), ys[i]'(by omega), q.1, q.2, List.getElem?_eq_getElem _, List.getElem?_eq_getElem _⟩, fun _ q => ⟨xs, ys, q.1, q.2, by omega, by omega, by omega⟩, fun i H v H' _ q y => ?_⟩
  obtain ⟨T, x, z, e, nT, eH, g1, g2⟩ := y
  exact ⟨T, x, z, e, nT, eH, g1 xs q.1, g2 ys q.2⟩
end WK
/-! ## parting, order of keys, words of a shape -/
namespace WK
open PySem PySem.Spec PyProof.Rows L2
theorem xor_zero_iff {x y : Nat} : x ^^^ y = 0 ↔ x = y := by
  constructor
  · intro h
    have e : x ^^^ (x ^^^ y) = x := by rw [h, Nat.xor_zero]
    rw [← Nat.xor_assoc, Nat.xor_self, Nat.zero_xor] at e
    exact e.symm
  · intro h
    rw [h, Nat.xor_self]
theorem xor_lt_iff {a b m : Nat} : (a ^^^ b) < 2 ^ m ↔ a / 2 ^ m = b / 2 ^ m := by
  rw [← xor_zero_iff, ← Nat.xor_div_two_pow, Nat.div_eq_zero_iff]
  have := Nat.two_pow_pos m
  omega
/-- the first step at which two keys differ -/
structure IsPart (N : Nat) (K1 K2 : Int) (j : Nat) : Prop where
  lt : j < N
  ne : K1 / 2 ^ (N - 1 - j) ≠ K2 / 2 ^ (N - 1 - j)
  eq : ∀ s, s < j → K1 / 2 ^ (N - 1 - s) = K2 / 2 ^ (N - 1 - s)
theorem part_search (N : Nat) (K1 K2 : Int) : ∀ i, i ≤ N → (∀ s, s < i → K1 / 2 ^ (N - 1 - s) = K2 / 2 ^ (N - 1 - s)) ∨ ∃ j, j < i ∧ IsPart N K1 K2 j
  | 0, _ => .inl fun s hs => absurd hs (by omega)
  | i + 1, h => by
    rcases part_search N K1 K2 i (by omega) with e | ⟨j, hj, hp⟩
    · by_cases d : K1 / 2 ^ (N - 1 - i) = K2 / 2 ^ (N - 1 - i)
      · refine .inl fun s hs => ?_
        by_cases z : s = i
        · rw [z]
          exact d
        · exact e s (by omega)
      · exact .inr ⟨i, by omega, by omega, d, e⟩
    · exact .inr ⟨j, by omega, hp⟩
theorem ediv_mono_eq {K1 K2 : Int} {a b : Nat} (h : K1 / 2 ^ a = K2 / 2 ^ a) (hab : a ≤ b) : K1 / 2 ^ b = K2 / 2 ^ b := by
  obtain ⟨c, rfl⟩ := Nat.exists_eq_add_of_le hab
  rw [Int.pow_add, ← Int.ediv_ediv_of_nonneg (Int.le_of_lt (Int.pow_pos (by decide))), ← Int.ediv_ediv_of_nonneg (Int.le_of_lt (Int.pow_pos (by decide))), h]
theorem IsPart.uniq {N : Nat} {K1 K2 : Int} {i j : Nat} (h : IsPart N K1 K2 i) (g : IsPart N K1 K2 j) : i = j := by
  rcases Nat.lt_trichotomy i j with l | l | l
  · exact absurd (g.eq i l) h.ne
  · exact l
  · exact absurd (h.eq j l) g.ne
theorem IsPart.symm {N : Nat} {K1 K2 : Int} {j : Nat} (h : IsPart N K1 K2 j) : IsPart N K2 K1 j := ⟨h.lt, h.ne.symm, fun s hs => (h.eq s hs).symm⟩
theorem part_ex {N : Nat} {K1 K2 : Int} (h : K1 ≠ K2) (hN : 0 < N) : ∃ j, IsPart N K1 K2 j := by
  rcases part_search N K1 K2 N (Nat.le_refl _) with e | ⟨j, _, hp⟩
  · have := e (N - 1) (by omega)
    rw [show N - 1 - (N - 1) = 0 by omega, Int.pow_zero, Int.ediv_one, Int.ediv_one] at this
    exact absurd this h
  · exact ⟨j, hp⟩
/-- the bits of what is apart -/
theorem part_bits {N j B : Nat} {a b : Nat} (hb : ∀ m, B ≤ m ↔ (a ^^^ b) < 2 ^ m) (h : IsPart N (a : Int) (b : Int) j) (ha : a < 2 ^ N) (hb2 : b < 2 ^ N) : B = N - j := by
  have cast : ∀ (x m : Nat), (x : Int) / 2 ^ m = ((x / 2 ^ m : Nat) : Int) := fun x m => by
    rw [Int.natCast_ediv]
    congr 1
  have h1 := h.ne
  have hlt := h.lt
  rw [cast, cast] at h1
  have h2 : ¬ B ≤ N - 1 - j := fun z => h1 (by rw [xor_lt_iff.mp ((hb _).mp z)])
  have h3 : B ≤ N - j := by
    refine (hb _).mpr (xor_lt_iff.mpr ?_)
    by_cases z : j = 0
    · rw [z, Nat.sub_zero, Nat.div_eq_of_lt ha, Nat.div_eq_of_lt hb2]
    · have := h.eq (j - 1) (by omega)
      rw [cast, cast, show N - 1 - (j - 1) = N - j by omega] at this
      exact Int.ofNat.inj this
  omega
/-! ### cells in order, keys in order -/
theorem key_mono {l : List Nat} {n : Nat} {cs ds : List Int} (hc : CellOk l n cs) (hd : CellOk l n ds) (hl : ∀ c ∈ l, 97 ≤ c ∧ c < 97 + n) (h : ∀ k, k < n → cs.getD k 0 ≤ ds.getD k 0) :
    ∀ j, j ≤ l.length → keyN l cs j < keyN l ds j ∨ (keyN l cs j = keyN l ds j ∧ ∀ k, k < n → cs.getD k 0 / 2 ^ (l.count (97 + k) - (l.take j).count (97 + k)) = ds.getD k 0 / 2 ^ (l.count (97 + k) - (l.take j).count (97 + k)))
  | 0, _ => .inr ⟨rfl, fun k hk => by
      rw [List.take_zero, List.count_nil, Nat.sub_zero, Int.ediv_eq_zero_of_lt (hc.lo k hk) (hc.hi k hk), Int.ediv_eq_zero_of_lt (hd.lo k hk) (hd.hi k hk)]⟩
  | j + 1, hj => by
    have hj' : j < l.length := hj
    have hg : l.getD j 0 = l[j] := by rw [List.getD_eq_getElem?_getD, List.getElem?_eq_getElem hj']; rfl
    obtain ⟨c1, c2⟩ := hl _ (List.getElem_mem hj')
    have hlt := cnt_lt hj'
    rw [← hg] at c1 c2 hlt
    obtain ⟨k, hk⟩ : ∃ k, l.getD j 0 = 97 + k := ⟨l.getD j 0 - 97, by omega⟩
    have hkn : k < n := by omega
    have hmono := Int.ediv_le_ediv (c := 2 ^ (l.count (97 + k) - (l.take j).count (97 + k) - 1)) (Int.pow_pos (by decide)) (h k hkn)
    rw [keyN, keyN, hk, show 97 + k - 97 = k by omega]
    rw [hk] at hlt
    rcases key_mono hc hd hl h j (by omega) with a | ⟨a, b⟩
    · left
      generalize cs.getD k 0 / 2 ^ (l.count (97 + k) - (l.take j).count (97 + k) - 1) = X
      generalize ds.getD k 0 / 2 ^ (l.count (97 + k) - (l.take j).count (97 + k) - 1) = Y
      omega
    · have bk := b k hkn
      rw [show l.count (97 + k) - (l.take j).count (97 + k) = (l.count (97 + k) - (l.take j).count (97 + k) - 1) + 1 by omega, ediv_pow_succ', ediv_pow_succ'] at bk
      by_cases e : cs.getD k 0 / 2 ^ (l.count (97 + k) - (l.take j).count (97 + k) - 1) = ds.getD k 0 / 2 ^ (l.count (97 + k) - (l.take j).count (97 + k) - 1)
      · right
        refine ⟨by rw [a, e], fun i hi => ?_⟩
        rw [count_step hj', hk]
        by_cases z : i = k
        · subst z
          rw [if_pos rfl, ← Nat.sub_sub]
          exact e
        · rw [if_neg (by omega), Nat.add_zero]
          exact b i hi
      · left
        generalize cs.getD k 0 / 2 ^ (l.count (97 + k) - (l.take j).count (97 + k) - 1) = X at *
        generalize ds.getD k 0 / 2 ^ (l.count (97 + k) - (l.take j).count (97 + k) - 1) = Y at *
        omega
theorem key_lt {l : List Nat} {n : Nat} {cs ds : List Int} (hc : CellOk l n cs) (hd : CellOk l n ds) (hl : ∀ c ∈ l, 97 ≤ c ∧ c < 97 + n) (h : ∀ k, k < n → cs.getD k 0 ≤ ds.getD k 0) (hne : cs ≠ ds) : keyN l cs l.length < keyN l ds l.length := by
  rcases key_mono hc hd hl h l.length (Nat.le_refl _) with a | ⟨a, _⟩
  · exact a
  · exact absurd (keyN_inj hc hd a) hne
theorem key_axis {l : List Nat} {cs : List Int} {k c : Nat} (hp : l.take c = List.replicate c (97 + k)) (hc : l.count (97 + k) = c) (hcl : c ≤ l.length) (h0 : 0 ≤ cs.getD k 0) (h1 : cs.getD k 0 < 2 ^ c) : ∀ j, j ≤ c → keyN l cs j = cs.getD k 0 / 2 ^ (c - j)
  | 0, _ => by rw [keyN, Nat.sub_zero, Int.ediv_eq_zero_of_lt h0 h1]
  | j + 1, hj => by
    have ih := key_axis hp hc hcl h0 h1 j (by omega)
    have hg : l.getD j 0 = 97 + k := by
      have : l[j]? = (l.take c)[j]? := by rw [List.getElem?_take_of_lt (by omega)]
      rw [List.getD_eq_getElem?_getD, this, hp, List.getElem?_replicate, if_pos (by omega)]
      rfl
    have ht : (l.take j).count (97 + k) = j := by
      rw [show l.take j = (l.take c).take j by rw [List.take_take, Nat.min_eq_left (by omega)], hp, List.take_replicate, List.count_replicate_self, Nat.min_eq_left (by omega)]
    rw [keyN, hg, ih, ht, hc, show 97 + k - 97 = k by omega]
    obtain ⟨m, rfl⟩ : ∃ m, c = j + 1 + m := ⟨c - (j + 1), by omega⟩
    rw [show j + 1 + m - j = m + 1 by omega, show m + 1 - 1 = m by omega, show j + 1 + m - (j + 1) = m by omega, ediv_pow_succ']
    generalize cs.getD k 0 / 2 ^ m = X
    omega
theorem key_axis_lt {l : List Nat} {cs ds : List Int} {k c : Nat} (hp : l.take c = List.replicate c (97 + k)) (hc : l.count (97 + k) = c) (hcl : c ≤ l.length) (h0 : 0 ≤ cs.getD k 0) (h1 : ds.getD k 0 < 2 ^ c) (h : cs.getD k 0 < ds.getD k 0) : keyN l cs l.length < keyN l ds l.length := by
  have a := key_axis (cs := cs) hp hc hcl h0 (by omega) c (Nat.le_refl _)
  have b := key_axis (cs := ds) hp hc hcl (by omega) h1 c (Nat.le_refl _)
  rw [Nat.sub_self, Int.pow_zero, Int.ediv_one] at a b
  have a2 := keyN_div l cs c (l.length - c)
  have b2 := keyN_div l ds c (l.length - c)
  rw [show c + (l.length - c) = l.length by omega] at a2 b2
  by_cases z : keyN l cs l.length < keyN l ds l.length
  · exact z
  · have := Int.ediv_le_ediv (c := 2 ^ (l.length - c)) (Int.pow_pos (by decide)) (Int.not_lt.mp z)
    omega
/-! ### all words of a shape -/
def words : Nat → List Int → List (List Nat)
  | 0, _ => [[]]
  | m + 1, sh => (List.range sh.length).flatMap fun k => if 0 < sh.getD k 0 then (words m (sh.set k (sh.getD k 0 - 1))).map (fun l => (97 + k) :: l) else []
theorem set_getD {sh : List Int} {k j : Nat} {v : Int} (hk : k < sh.length) : (sh.set k v).getD j 0 = if j = k then v else sh.getD j 0 := by
  by_cases e : j = k
  · subst e
    rw [if_pos rfl, List.getD_eq_getElem?_getD, List.getElem?_set_self hk]
    rfl
  · rw [if_neg e, List.getD_eq_getElem?_getD, List.getElem?_set_ne (Ne.symm e), ← List.getD_eq_getElem?_getD]
theorem sum_setD : ∀ {sh : List Int} {k : Nat} {v : Int}, k < sh.length → (sh.set k v).sum = sh.sum - sh.getD k 0 + v
  | x :: xs, 0, v, _ => by
    show v + xs.sum = x + xs.sum - x + v
    omega
  | x :: xs, k + 1, v, h => by
    have := sum_setD (sh := xs) (k := k) (v := v) (by simpa using h)
    show x + (xs.set k v).sum = x + xs.sum - xs.getD k 0 + v
    omega
structure NN (m : Nat) (sh : List Int) : Prop where
  nn : ∀ x ∈ sh, 0 ≤ x
  sm : sh.sum = (m : Int)
theorem NN.step {m k : Nat} {sh : List Int} (h : NN (m + 1) sh) (hk : k < sh.length) (hp : 0 < sh.getD k 0) : NN m (sh.set k (sh.getD k 0 - 1)) := by
  refine ⟨fun x hx => ?_, ?_⟩
  · obtain ⟨j, hj, rfl⟩ := memG hx
    rw [List.length_set] at hj
    rw [set_getD hk]
    split
    · omega
    · exact h.nn _ (gMem hj)
  · rw [sum_setD hk, h.sm]
    omega
theorem words_ok : ∀ (m : Nat) (sh : List Int), NN m sh → ∀ l ∈ words m sh, l.length = m ∧ (∀ c ∈ l, 97 ≤ c ∧ c < 97 + sh.length) ∧ ∀ k, k < sh.length → (l.count (97 + k) : Int) = sh.getD k 0
  | 0, sh, h, l, hl => by
    rw [List.mem_singleton.mp hl]
    refine ⟨rfl, fun c hc => (by cases hc), fun k hk => ?_⟩
    have z := h.nn _ (gMem hk)
    have : sh.getD k 0 = 0 := by
      rcases Int.lt_or_eq_of_le z with g | g
      · exfalso
        have h1 : sh = sh.take k ++ sh.drop k := (List.take_append_drop k sh).symm
        have h2 : sh.drop k = sh[k] :: sh.drop (k + 1) := List.drop_eq_getElem_cons hk
        have h3 := h.sm
        rw [h1, h2, List.sum_append, List.sum_cons] at h3
        have a := sumNN (sh.take k) fun x hx => h.nn x (List.mem_of_mem_take hx)
        have b := sumNN (sh.drop (k + 1)) fun x hx => h.nn x (List.mem_of_mem_drop hx)
        have : sh.getD k 0 = sh[k] := by rw [List.getD_eq_getElem?_getD, List.getElem?_eq_getElem hk]; rfl
        omega
      · exact g.symm
    rw [this]
    rfl
  | m + 1, sh, h, l, hl => by
    rw [words, List.mem_flatMap] at hl
    obtain ⟨k, hk, hl⟩ := hl
    have hk' := List.mem_range.mp hk
    split at hl
    · rename_i hp
      obtain ⟨l', hl', rfl⟩ := List.mem_map.mp hl
      obtain ⟨a, b, c⟩ := words_ok m _ (h.step hk' hp) l' hl'
      rw [List.length_set] at b c
      refine ⟨by rw [List.length_cons, a], fun c' hc' => ?_, fun j hj => ?_⟩
      · rcases List.mem_cons.mp hc' with e | e
        · omega
        · exact b c' e
      · have cj := c j hj
        rw [set_getD hk'] at cj
        rw [List.count_cons]
        by_cases e : j = k
        · subst e
          rw [if_pos rfl] at cj
          rw [if_pos (beq_self_eq_true _)]
          omega
        · rw [if_neg e] at cj
          rw [if_neg (by rw [beq_iff_eq]; omega)]
          omega
    · cases hl
theorem words_cons {m k : Nat} {sh : List Int} {l : List Nat} (hk : k < sh.length) (hp : 0 < sh.getD k 0) (hl : l ∈ words m (sh.set k (sh.getD k 0 - 1))) : (97 + k) :: l ∈ words (m + 1) sh := by
  rw [words, List.mem_flatMap]
  refine ⟨k, List.mem_range.mpr hk, ?_⟩
  rw [if_pos hp]
  exact List.mem_map.mpr ⟨l, hl, rfl⟩
theorem words_ne : ∀ (m : Nat) (sh : List Int), NN m sh → ∃ l, l ∈ words m sh
  | 0, _, _ => ⟨[], List.mem_singleton.mpr rfl⟩
  | m + 1, sh, h => by
    obtain ⟨k, hk, hp⟩ := sum_pos_ex sh h.nn (by rw [h.sm]; omega)
    obtain ⟨l, hl⟩ := words_ne m _ (h.step hk hp)
    exact ⟨_, words_cons hk hp hl⟩
theorem words_lead : ∀ (c m : Nat) (sh : List Int) (k : Nat), NN m sh → k < sh.length → sh.getD k 0 = (c : Int) → ∃ l, l ∈ words m sh ∧ l.take c = List.replicate c (97 + k)
  | 0, m, sh, k, h, _, _ => by
    obtain ⟨l, hl⟩ := words_ne m sh h
    exact ⟨l, hl, by rw [List.take_zero]; rfl⟩
  | c + 1, 0, sh, k, h, hk, e => by
    exfalso
    have h1 := words_ok 0 sh h [] (List.mem_singleton.mpr rfl)
    have := h1.2.2 k hk
    rw [List.count_nil] at this
    omega
  | c + 1, m + 1, sh, k, h, hk, e => by
    have hp : 0 < sh.getD k 0 := by omega
    obtain ⟨l, hl, ht⟩ := words_lead c m _ k (h.step hk hp) (by rw [List.length_set]; exact hk) (by rw [set_getD hk, if_pos rfl]; omega)
    exact ⟨_, words_cons hk hp hl, by rw [List.take_succ_cons, ht, List.replicate_succ]⟩
theorem flatMap_len_le {α : Type} (f : Nat → List α) (B : Nat) : ∀ n : Nat, (∀ k, k < n → (f k).length ≤ B) → ((List.range n).flatMap f).length ≤ n * B
  | 0, _ => Nat.zero_le _
  | n + 1, h => by
    rw [List.range_succ, List.flatMap_append, List.length_append]
    have := flatMap_len_le f B n fun k hk => h k (by omega)
    have h2 := h n (by omega)
    simp only [List.flatMap_cons, List.flatMap_nil, List.append_nil]
    rw [Nat.succ_mul]
    omega
theorem words_len : ∀ (m : Nat) (sh : List Int), sh.length ≤ 4 → (words m sh).length ≤ 4 ^ m
  | 0, _, _ => Nat.le_refl _
  | m + 1, sh, h => by
    rw [words]
    refine Nat.le_trans (flatMap_len_le _ (4 ^ m) _ fun k hk => ?_) ?_
    · split
      · rw [List.length_map]
        exact words_len m _ (by rw [List.length_set]; exact h)
      · exact Nat.zero_le _
    · rw [Nat.pow_succ, Nat.mul_comm]
      exact Nat.mul_le_mul_left _ h
theorem eqv_ints_iff : ∀ xs ys : List Int, PyData.eqvAll (xs.map .int) (ys.map .int) = decide (xs = ys)
  | [], [] => rfl
  | [], y :: ys => rfl
  | x :: xs, [] => rfl
  | x :: xs, y :: ys => by
    rw [List.map_cons, List.map_cons, PyData.eqvAll, PyData.eqv, eqv_ints_iff xs ys]
    by_cases h : x = y
    · subst h
      by_cases g : xs = ys
      · subst g
        simp
      · rw [decide_eq_false g, decide_eq_false (fun z => g (List.cons.inj z).2)]
        simp
    · rw [decide_eq_false (fun z => h (List.cons.inj z).1), beq_eq_false_iff_ne.mpr h]
      rfl
/-- two tuples of ints: equal exactly if the ints are -/
theorem eqT_do {K : PySem.W.Frag} {a b : Addr} {xs ys : List Int} {H : Hp} {Q : VK} (ha : SqT K H a (xs.map V.int)) (hb : SqT K H b (ys.map V.int)) (q : Q (.bl (decide (xs = ys))) H) : rEqD K (.ref a) (.ref b) H Q := by
  refine ⟨_, _, dp_tup ha, dp_tup hb, LOk.intsT.shaped, LOk.intsT.shaped, ?_⟩
  rw [PyData.eqv, eqv_ints_iff]
  exact q
/-! ### one place of a tuple exchanged -/
theorem cut_head {xs : List V} {i : Nat} (h : i ≤ xs.length) : cutV xs none (some (i : Int)) = xs.take i := by
  unfold cutV
  rw [HT.sIx_none, HT.sIx_nat, List.drop_zero, Nat.sub_zero, Nat.min_eq_left h]
theorem cut_tail {xs : List V} {i : Nat} (h : i ≤ xs.length) : cutV xs (some (i : Int)) none = xs.drop i := by
  unfold cutV
  rw [HT.sIx_none, HT.sIx_nat, Nat.min_eq_left h, List.take_of_length_le (by rw [List.length_drop]; exact Nat.le_refl _)]
theorem cutT_do {K : PySem.W.Frag} {H : Hp} {p : Addr} {xs : List V} {i : Nat} {Q : VK} (hp : SqT K H p xs) (hi : i < xs.length) (q : ∀ r, H r = none → Q (.ref r) (upd H r (.tup (xs.take i)))) : rSlT K (.ref p) none (some (i : Int)) H Q := by
  refine ⟨p, xs, rfl, hp, fun h => ?_, fun r nr => ?_⟩
  · have := h.2
    rw [HT.sIx_nat] at this
    omega
  · rw [cut_head (by omega)]
    exact q r nr
theorem dropT_do {K : PySem.W.Frag} {H : Hp} {p : Addr} {xs : List V} {i : Nat} {Q : VK} (hp : SqT K H p xs) (hi : i < xs.length) (q : ∀ r, H r = none → Q (.ref r) (upd H r (.tup (xs.drop (i + 1))))) : rSlT K (.ref p) (some ((i : Int) + 1)) none H Q := by
  have e : (i : Int) + 1 = ((i + 1 : Nat) : Int) := by omega
  rw [e]
  refine ⟨p, xs, rfl, hp, fun h => ?_, fun r nr => ?_⟩
  · have := h.1
    rw [HT.sIx_nat] at this
    omega
  · rw [cut_tail (by omega)]
    exact q r nr
theorem catA2_do {K : PySem.W.Frag} {H : Hp} {a b : Addr} {xs ys : List V} {Q : VK} (ha : H a = some (.tup xs)) (hb : H b = some (.tup ys)) (hl : xs.length + ys.length ≤ 1000) (q : ∀ r H', Same H H' → H' r = some (.tup (xs ++ ys)) → Q (.ref r) H') : rCatA K (.ref a) (.ref b) H Q := by
  refine ⟨a, b, xs, ys, rfl, rfl, sqT_of ha, sqT_of hb, le_size (by omega), fun e => ?_, fun _ e => ?_, fun _ _ p np => ?_⟩
  · subst e
    exact q b H (fun _ _ h => h) hb
  · subst e
    exact q a H (fun _ _ h => h) (by rw [List.append_nil]; exact ha)
  · exact q p _ (same_new np) upd_same
theorem set_parts {xs : List V} {i : Nat} {v : V} (h : i < xs.length) : xs.take i ++ [v] ++ xs.drop (i + 1) = xs.set i v := by
  rw [List.set_eq_take_append_cons_drop, if_pos h, List.append_assoc]
  rfl
/-- x[:i] + (v,) + x[i + 1:] -/
theorem put_do {K : PySem.W.Frag} {H : Hp} {p : Addr} {xs : List V} {i : Nat} {v : V} {Q : VK} (hp : SqT K H p xs) (hi : i < xs.length) (hl : xs.length ≤ 400) (q : ∀ r H', Same H H' → H' r = some (.tup (xs.set i v)) → Q (.ref r) H') :
    rSlT K (.ref p) none (some (i : Int)) H fun x H1 => 1 ≤ sizeLine ∧ ∀ p1, H1 p1 = none → rCatA K x (.ref p1) (upd H1 p1 (.tup [v])) fun x H1 => rSlT K (.ref p) (some ((i : Int) + 1)) none H1 fun y H2 => rCatA K x y H2 Q :=
  cutT_do hp hi fun r nr => ⟨le_size (by decide), fun p1 np1 => catA2_do (upd_new np1 upd_same) upd_same (by rw [List.length_take, List.length_singleton]; omega) fun r2 H2 s2 h2 =>
    dropT_do ((((same_new nr).new np1).trans s2).sqT hp) hi fun r3 nr3 => catA2_do (upd_new nr3 h2) upd_same (by rw [List.length_append, List.length_take, List.length_drop, List.length_singleton]; omega) fun r4 H4 s4 h4 =>
      q r4 H4 ((((same_new nr).new np1).trans s2).new nr3 |>.trans s4) (by rw [h4, set_parts hi])⟩
theorem map_set_int {xs : List Int} {i : Nat} {v : Int} : (xs.map V.int).set i (.int v) = (xs.set i v).map V.int := by
  rw [List.map_set]
/-! ### what is told of two cells -/
def exLt (cs ds : List Int) (n : Nat) : Bool := (List.range n).any fun k => decide (cs.getD k 0 < ds.getD k 0)
def precS (cs ds : List Int) (n : Nat) : Str := if cs = ds then "same" else if exLt cs ds n = true ∧ exLt ds cs n = true then "sometimes" else if exLt cs ds n = true then "always" else "never"
theorem exLt_iff {cs ds : List Int} {n : Nat} : exLt cs ds n = true ↔ ∃ k, k < n ∧ cs.getD k 0 < ds.getD k 0 := by
  unfold exLt
  simp only [List.any_eq_true, List.mem_range, decide_eq_true_eq]
theorem getD_ext {cs ds : List Int} {n : Nat} (h1 : cs.length = n) (h2 : ds.length = n) (h : ∀ k, k < n → cs.getD k 0 = ds.getD k 0) : cs = ds := by
  apply List.ext_getElem?
  intro k
  by_cases hk : k < n
  · have := h k hk
    rw [List.getD_eq_getElem?_getD, List.getD_eq_getElem?_getD, List.getElem?_eq_getElem (by omega), List.getElem?_eq_getElem (by omega)] at this
    rw [List.getElem?_eq_getElem (by omega), List.getElem?_eq_getElem (by omega)]
    exact congrArg some this
  · rw [List.getElem?_eq_none (by omega), List.getElem?_eq_none (by omega)]
theorem exLt_or {cs ds : List Int} {n : Nat} (h1 : cs.length = n) (h2 : ds.length = n) (h : cs ≠ ds) : exLt cs ds n = true ∨ exLt ds cs n = true := by
  by_cases a : exLt cs ds n = true
  · exact .inl a
  · by_cases b : exLt ds cs n = true
    · exact .inr b
    · exfalso
      apply h
      refine getD_ext h1 h2 fun k hk => ?_
      have h3 : ¬ cs.getD k 0 < ds.getD k 0 := fun z => a (exLt_iff.mpr ⟨k, hk, z⟩)
      have h4 : ¬ ds.getD k 0 < cs.getD k 0 := fun z => b (exLt_iff.mpr ⟨k, hk, z⟩)
      omega
theorem prec_cases (cs ds : List Int) {n : Nat} (h1 : cs.length = n) (h2 : ds.length = n) : (precS cs ds n = "same" ∧ precS ds cs n = "same") ∨ (precS cs ds n = "always" ∧ precS ds cs n = "never") ∨ (precS cs ds n = "never" ∧ precS ds cs n = "always") ∨ (precS cs ds n = "sometimes" ∧ precS ds cs n = "sometimes") := by
  unfold precS
  by_cases e : cs = ds
  · left
    rw [if_pos e, if_pos e.symm]
    exact ⟨rfl, rfl⟩
  · rw [if_neg e, if_neg (Ne.symm e)]
    have h := exLt_or h1 h2 e
    cases a : exLt cs ds n <;> cases b : exLt ds cs n <;> simp_all
theorem inV_bls (b : Bool) : ∀ bs : List Bool, inV (.bl b) (bs.map V.bl) = bs.any (· == b)
  | [] => rfl
  | c :: bs => by
    have := inV_bls b bs
    unfold inV at this ⊢
    rw [List.map_cons, List.any_cons, List.any_cons, this]
    cases b <;> cases c <;> rfl
theorem flat_bls (bs : List Bool) : (bs.map V.bl).all flatV = true := by
  rw [List.all_eq_true]
  intro x hx
  obtain ⟨i, _, rfl⟩ := List.mem_map.mp hx
  rfl
theorem words_wok {m : Nat} {sh : List Int} (h : ShOk sh) (hN : NN m sh) {l : List Nat} (hl : l ∈ words m sh) : WOk l sh.length ∧ cnts l sh.length = sh := by
  obtain ⟨a, b, c⟩ := words_ok m sh hN l hl
  refine lft_done h b (by rw [a, hN.sm]) fun k hk => ?_
  rw [lft_get hk, ← c k hk]
  omega
/-- what all words say -/
theorem prec_words {m : Nat} {sh cs ds : List Int} (h : ShOk sh) (hN : NN m sh) (hc : BoundC sh cs) (hd : BoundC sh ds) (hne : cs ≠ ds) :
    ((words m sh).map fun l => decide (keyN l cs l.length < keyN l ds l.length)).any (· == true) = exLt cs ds sh.length ∧ ((words m sh).map fun l => decide (keyN l cs l.length < keyN l ds l.length)).any (· == false) = exLt ds cs sh.length := by
  have lead : ∀ {es fs : List Int}, BoundC sh es → BoundC sh fs → ∀ k, k < sh.length → es.getD k 0 < fs.getD k 0 → ∃ l, l ∈ words m sh ∧ keyN l es l.length < keyN l fs l.length := fun {es fs} he hf k hk hlt => by
    obtain ⟨c, hcc⟩ := Int.eq_ofNat_of_zero_le (show 0 ≤ sh.getD k 0 by have := (h.at hk).1; omega)
    obtain ⟨l, hl, ht⟩ := words_lead c m sh k hN hk hcc
    have hw := words_ok m sh hN l hl
    have hcnt : l.count (97 + k) = c := by have := hw.2.2 k hk; omega
    refine ⟨l, hl, key_axis_lt ht hcnt (by rw [← hcnt]; exact List.count_le_length) (he.2 k hk).1 ?_ hlt⟩
    have := (hf.2 k hk).2
    rw [hcc] at this
    exact this
  have all : ∀ {es fs : List Int}, BoundC sh es → BoundC sh fs → es ≠ fs → exLt fs es sh.length = false → ∀ l, l ∈ words m sh → keyN l es l.length < keyN l fs l.length := fun {es fs} he hf hn hx l hl => by
    obtain ⟨hW, hcl⟩ := words_wok h hN hl
    refine key_lt (CellOk.of hcl he) (CellOk.of hcl hf) hW.rng (fun k hk => ?_) hn
    have : ¬ fs.getD k 0 < es.getD k 0 := fun z => by
      have := exLt_iff.mpr ⟨k, hk, z⟩
      rw [hx] at this
      cases this
    omega
  constructor
  · cases hx : exLt cs ds sh.length with
    | true =>
      obtain ⟨k, hk, hlt⟩ := exLt_iff.mp hx
      obtain ⟨l, hl, hK⟩ := lead hc hd k hk hlt
      rw [List.any_eq_true]
      exact ⟨true, List.mem_map.mpr ⟨l, hl, decide_eq_true hK⟩, rfl⟩
    | false =>
      rw [List.any_eq_false]
      intro b hb
      obtain ⟨l, hl, rfl⟩ := List.mem_map.mp hb
      have := all hd hc (Ne.symm hne) hx l hl
      rw [decide_eq_false (by omega)]
      decide
  · cases hx : exLt ds cs sh.length with
    | true =>
      obtain ⟨k, hk, hlt⟩ := exLt_iff.mp hx
      obtain ⟨l, hl, hK⟩ := lead hd hc k hk hlt
      rw [List.any_eq_true]
      exact ⟨false, List.mem_map.mpr ⟨l, hl, decide_eq_false (by omega)⟩, rfl⟩
    | false =>
      rw [List.any_eq_false]
      intro b hb
      obtain ⟨l, hl, rfl⟩ := List.mem_map.mp hb
      have := all hc hd hne hx l hl
      rw [decide_eq_true this]
      decide
def signsOf (cs ds : List Int) (n : Nat) : List Bool := ((List.range n).filter fun k => decide (cs.getD k 0 ≠ ds.getD k 0)).map fun k => decide (cs.getD k 0 < ds.getD k 0)
theorem prec_signs {cs ds : List Int} {n : Nat} : (signsOf cs ds n).any (· == true) = exLt cs ds n ∧ (signsOf cs ds n).any (· == false) = exLt ds cs n := by
  unfold signsOf exLt
  constructor <;> rw [Bool.eq_iff_iff] <;> simp only [List.any_map, List.any_filter, List.any_eq_true, List.mem_range, Function.comp] <;> constructor <;> rintro ⟨k, hk, h⟩ <;> refine ⟨k, hk, ?_⟩
  all_goals simp at h ⊢
  all_goals omega
theorem signs_nil {cs ds : List Int} {n : Nat} (h1 : cs.length = n) (h2 : ds.length = n) : signsOf cs ds n = [] ↔ cs = ds := by
  unfold signsOf
  rw [List.map_eq_nil_iff, List.filter_eq_nil_iff]
  constructor
  · intro h
    refine getD_ext h1 h2 fun k hk => ?_
    have := h k (List.mem_range.mpr hk)
    simp at this
    exact this
  · intro h k hk
    rw [h]
    simp
theorem signs_snoc {cs ds : List Int} {n : Nat} : signsOf cs ds (n + 1) = if cs.getD n 0 ≠ ds.getD n 0 then signsOf cs ds n ++ [decide (cs.getD n 0 < ds.getD n 0)] else signsOf cs ds n := by
  unfold signsOf
  rw [List.range_succ, List.filter_append, List.map_append]
  by_cases h : cs.getD n 0 ≠ ds.getD n 0
  · rw [if_pos h, List.filter_cons, if_pos (decide_eq_true h)]
    rfl
  · rw [if_neg h, List.filter_cons, if_neg (by rw [decide_eq_true_eq]; exact h)]
    simp
end WK
/-! ## nodes, boxes, keys in boxes -/
namespace WK
open PySem PySem.Spec PyProof.Rows L2
/-! ### nodes: cells whose keys have like first bits -/
/-- what the first j bits tell of a number -/
def pre (l : List Nat) (k : Nat) : Nat → Int → Int
  | 0, _ => 0
  | j + 1, v => if l.getD j 0 = 97 + k then pre l k j (v / 2) * 2 + v % 2 else pre l k j (v / 2)
theorem pre_child {l : List Nat} {k j : Nat} {v b : Int} (b0 : 0 ≤ b) (b1 : b ≤ 1) : pre l k (j + 1) (2 * v + b) = if l.getD j 0 = 97 + k then pre l k j v * 2 + b else pre l k j v := by
  rw [pre, show (2 * v + b) / 2 = v by omega, show (2 * v + b) % 2 = b by omega]
theorem cellN_pre {l : List Nat} {K : Int} {k : Nat} : ∀ j, j ≤ l.length → cellN l K k j = pre l k j (K / 2 ^ (l.length - j))
  | 0, _ => rfl
  | j + 1, h => by
    have ih := cellN_pre (l := l) (K := K) (k := k) j (by omega)
    rw [cellN, pre, ih, show l.length - j = (l.length - (j + 1)) + 1 by omega, ediv_pow_succ']
/-- the bits that are still to come on an axis -/
def rm (l : List Nat) (k j : Nat) : Nat := l.count (97 + k) - (l.take j).count (97 + k)
theorem rm_step {l : List Nat} {k j : Nat} (h : j < l.length) : rm l k j = rm l k (j + 1) + if l.getD j 0 = 97 + k then 1 else 0 := by
  unfold rm
  rw [count_step h]
  by_cases e : l.getD j 0 = 97 + k
  · have := cnt_lt h
    have hg : l.getD j 0 = l[j] := by rw [List.getD_eq_getElem?_getD, List.getElem?_eq_getElem h]; rfl
    rw [← hg, e] at this
    simp only [e, if_true]
    omega
  · simp only [e, if_false]
    omega
theorem rm_end (l : List Nat) (k : Nat) : rm l k l.length = 0 := by
  unfold rm
  rw [List.take_length]
  omega
theorem rm_zero (l : List Nat) (k : Nat) : rm l k 0 = l.count (97 + k) := by
  unfold rm
  rw [List.take_zero]
  rfl
def nlo (l : List Nat) (k j : Nat) (v : Int) : Int := pre l k j v * 2 ^ rm l k j
def nhi (l : List Nat) (k j : Nat) (v : Int) : Int := (pre l k j v + 1) * 2 ^ rm l k j - 1
theorem nlo_other {l : List Nat} {k j : Nat} {v b : Int} (h : j < l.length) (b0 : 0 ≤ b) (b1 : b ≤ 1) (e : l.getD j 0 ≠ 97 + k) : nlo l k (j + 1) (2 * v + b) = nlo l k j v ∧ nhi l k (j + 1) (2 * v + b) = nhi l k j v := by
  unfold nlo nhi
  rw [pre_child b0 b1, if_neg e, rm_step (j := j) h, if_neg e, Nat.add_zero]
  exact ⟨rfl, rfl⟩
theorem nlo_axis {l : List Nat} {k j : Nat} {v b : Int} (h : j < l.length) (b0 : 0 ≤ b) (b1 : b ≤ 1) (e : l.getD j 0 = 97 + k) :
    nlo l k j v = pre l k j v * (2 * 2 ^ rm l k (j + 1)) ∧ nhi l k j v = (pre l k j v + 1) * (2 * 2 ^ rm l k (j + 1)) - 1 ∧ nlo l k (j + 1) (2 * v + b) = (2 * pre l k j v + b) * 2 ^ rm l k (j + 1) ∧ nhi l k (j + 1) (2 * v + b) = (2 * pre l k j v + b + 1) * 2 ^ rm l k (j + 1) - 1 := by
  have e2 : (2 : Int) ^ rm l k j = 2 * 2 ^ rm l k (j + 1) := by rw [rm_step (j := j) h, if_pos e, Int.pow_succ, Int.mul_comm]
  unfold nlo nhi
  rw [pre_child b0 b1, if_pos e, e2, Int.mul_comm (pre l k j v) 2]
  exact ⟨rfl, rfl, rfl, rfl⟩
/-- the middle of a stretch, and its halves -/
theorem nlo_mid {l : List Nat} {k j : Nat} {v : Int} (h : j < l.length) (e : l.getD j 0 = 97 + k) :
    (nlo l k j v + nhi l k j v + 1) / 2 = nlo l k (j + 1) (2 * v + 1) ∧ nlo l k (j + 1) (2 * v + 0) = nlo l k j v ∧ nhi l k (j + 1) (2 * v + 0) = nlo l k (j + 1) (2 * v + 1) - 1 ∧ nhi l k (j + 1) (2 * v + 1) = nhi l k j v ∧ nlo l k j v < nlo l k (j + 1) (2 * v + 1) ∧ nlo l k (j + 1) (2 * v + 1) ≤ nhi l k j v := by
  obtain ⟨a, b, c, d⟩ := nlo_axis (v := v) (b := 0) h (by decide) (by decide) e
  obtain ⟨_, _, c1, d1⟩ := nlo_axis (v := v) (b := 1) h (by decide) (by decide) e
  have p := pow_pos' (rm l k (j + 1))
  rw [a, b, c, d, c1, d1]
  generalize (2 : Int) ^ rm l k (j + 1) = S at *
  generalize pre l k j v = q at *
  have x1 : q * (2 * S) = 2 * (q * S) := by rw [Int.mul_left_comm]
  have x2 : (q + 1) * (2 * S) = 2 * (q * S) + 2 * S := by rw [Int.add_mul, x1]; omega
  have x3 : (2 * q + 0) * S = 2 * (q * S) := by rw [Int.add_zero, Int.mul_assoc]
  have x4 : (2 * q + 1) * S = 2 * (q * S) + S := by rw [Int.add_mul, Int.mul_assoc]; omega
  have x5 : (2 * q + 0 + 1) * S = 2 * (q * S) + S := by rw [Int.add_zero]; exact x4
  have x6 : (2 * q + 1 + 1) * S = 2 * (q * S) + 2 * S := by rw [show 2 * q + 1 + 1 = 2 * q + 2 by omega, Int.add_mul, Int.mul_assoc]
  rw [x1, x2, x3, x4, x5, x6]
  generalize q * S = Z
  refine ⟨?_, ?_, ?_, ?_, ?_, ?_⟩ <;> omega
/-- so many numbers in both stretches -/
def ov (a b lo hi : Int) : Int := if (if b < hi then b else hi) - (if a > lo then a else lo) + 1 > 0 then (if b < hi then b else hi) - (if a > lo then a else lo) + 1 else 0
theorem ov_split {a m b lo hi : Int} (h1 : a < m) (h2 : m ≤ b) (h3 : lo ≤ hi) : ov a b lo hi = ov a (m - 1) lo hi + ov m b lo hi := by
  unfold ov
  repeat' split
  all_goals omega
def prodI : List Int → Int
  | [] => 1
  | x :: xs => x * prodI xs
theorem prodI_split : ∀ (ks : List Nat) (f f1 f2 : Nat → Int) (a : Nat), a ∈ ks → ks.Nodup → (∀ k ∈ ks, k ≠ a → f k = f1 k ∧ f k = f2 k) → f a = f1 a + f2 a → prodI (ks.map f) = prodI (ks.map f1) + prodI (ks.map f2)
  | [], _, _, _, _, h, _, _, _ => by cases h
  | k :: ks, f, f1, f2, a, h, hn, ho, ha => by
    obtain ⟨h1, h2⟩ := List.nodup_cons.mp hn
    rw [List.map_cons, List.map_cons, List.map_cons, prodI, prodI, prodI]
    by_cases e : k = a
    · subst e
      have same : ∀ g : Nat → Int, (∀ i ∈ ks, f i = g i) → ks.map f = ks.map g := fun g hg => List.map_congr_left hg
      rw [← same f1 fun i hi => (ho i (List.mem_cons_of_mem _ hi) (fun z => h1 (z ▸ hi))).1, ← same f2 fun i hi => (ho i (List.mem_cons_of_mem _ hi) (fun z => h1 (z ▸ hi))).2, ha, Int.add_mul]
    · have hm : a ∈ ks := by
        rcases List.mem_cons.mp h with z | z
        · exact absurd z.symm e
        · exact z
      have ih := prodI_split ks f f1 f2 a hm h2 (fun i hi => ho i (List.mem_cons_of_mem _ hi)) ha
      obtain ⟨e1, e2⟩ := ho k List.mem_cons_self e
      rw [ih, Int.mul_add, ← e1, ← e2]
/-- the cells of a box in a node -/
def cntN (l : List Nat) (bx : List (Int × Int)) (j : Nat) (v : Int) : Int := prodI ((List.range bx.length).map fun k => ov (nlo l k j v) (nhi l k j v) (bx.getD k (0, 0)).1 (bx.getD k (0, 0)).2)
def inB (l : List Nat) (bx : List (Int × Int)) (K : Int) : Bool := (List.range bx.length).all fun k => decide ((bx.getD k (0, 0)).1 ≤ pre l k l.length K) && decide (pre l k l.length K ≤ (bx.getD k (0, 0)).2)
theorem cnt_split {l : List Nat} {bx : List (Int × Int)} {j : Nat} {v : Int} (hl : ∀ c ∈ l, 97 ≤ c ∧ c < 97 + bx.length) (hb : ∀ k, k < bx.length → (bx.getD k (0, 0)).1 ≤ (bx.getD k (0, 0)).2) (h : j < l.length) : cntN l bx j v = cntN l bx (j + 1) (2 * v) + cntN l bx (j + 1) (2 * v + 1) := by
  have hg : l.getD j 0 = l[j] := by rw [List.getD_eq_getElem?_getD, List.getElem?_eq_getElem h]; rfl
  obtain ⟨c1, c2⟩ := hl _ (List.getElem_mem h)
  rw [← hg] at c1 c2
  obtain ⟨a, ha⟩ : ∃ a, l.getD j 0 = 97 + a := ⟨l.getD j 0 - 97, by omega⟩
  unfold cntN
  refine prodI_split _ _ _ _ a (List.mem_range.mpr (by omega)) List.nodup_range (fun k hk hne => ?_) ?_
  · have e0 := nlo_other (v := v) (b := 0) (k := k) h (by decide) (by decide) (by omega)
    have e1 := nlo_other (v := v) (b := 1) (k := k) h (by decide) (by decide) (by omega)
    rw [Int.add_zero] at e0
    rw [e0.1, e0.2, e1.1, e1.2]
    exact ⟨rfl, rfl⟩
  · obtain ⟨m1, m2, m3, m4, m5, m6⟩ := nlo_mid (v := v) h ha
    rw [Int.add_zero] at m2 m3
    show ov _ _ _ _ = ov _ _ _ _ + ov _ _ _ _
    rw [m2, m3, m4]
    exact ov_split m5 m6 (hb a (by omega))
theorem prodI_bool : ∀ (ks : List Nat) (f : Nat → Int) (p : Nat → Bool), (∀ k ∈ ks, f k = if p k = true then 1 else 0) → prodI (ks.map f) = if ks.all p = true then 1 else 0
  | [], _, _, _ => rfl
  | k :: ks, f, p, h => by
    rw [List.map_cons, prodI, prodI_bool ks f p fun i hi => h i (List.mem_cons_of_mem _ hi), h k List.mem_cons_self, List.all_cons]
    cases p k <;> cases ks.all p <;> rfl
theorem cnt_leaf (l : List Nat) (bx : List (Int × Int)) (K : Int) (hb : ∀ k, k < bx.length → (bx.getD k (0, 0)).1 ≤ (bx.getD k (0, 0)).2) : cntN l bx l.length K = if inB l bx K = true then 1 else 0 := by
  unfold cntN inB
  refine prodI_bool _ _ _ fun k hk => ?_
  have h := hb k (List.mem_range.mp hk)
  unfold nlo nhi ov
  rw [rm_end, Int.pow_zero, Int.mul_one, Int.mul_one]
  simp only [Bool.and_eq_true, decide_eq_true_eq]
  generalize pre l k l.length K = q
  generalize (bx.getD k (0, 0)).1 = lo at *
  generalize (bx.getD k (0, 0)).2 = hi at *
  repeat' split
  all_goals omega
/-- how many from a on, m in all, keep p -/
def countK (p : Int → Bool) (a : Int) : Nat → Int
  | 0 => 0
  | m + 1 => countK p a m + if p (a + m) = true then 1 else 0
theorem countK_add (p : Int → Bool) (a : Int) (m : Nat) : ∀ m' : Nat, countK p a (m + m') = countK p a m + countK p (a + m) m'
  | 0 => by rw [Nat.add_zero, countK, Int.add_zero]
  | m' + 1 => by
    rw [← Nat.add_assoc, countK, countK, countK_add p a m m', show a + ((m + m' : Nat) : Int) = a + m + m' by omega]
    omega
theorem countK_nn (p : Int → Bool) (a : Int) : ∀ m : Nat, 0 ≤ countK p a m
  | 0 => Int.le_refl _
  | m + 1 => by
    have := countK_nn p a m
    rw [countK]
    split <;> omega
theorem countK_le (p : Int → Bool) (a : Int) : ∀ m : Nat, countK p a m ≤ m
  | 0 => Int.le_refl _
  | m + 1 => by
    have := countK_le p a m
    rw [countK]
    split <;> omega
theorem cnt_count {l : List Nat} {bx : List (Int × Int)} (hl : ∀ c ∈ l, 97 ≤ c ∧ c < 97 + bx.length) (hb : ∀ k, k < bx.length → (bx.getD k (0, 0)).1 ≤ (bx.getD k (0, 0)).2) : ∀ (d j : Nat) (v : Int), j + d = l.length → cntN l bx j v = countK (inB l bx) (v * 2 ^ d) (2 ^ d)
  | 0, j, v, h => by
    rw [show j = l.length by omega, cnt_leaf l bx v hb, Int.pow_zero, Int.mul_one]
    show _ = 0 + if inB l bx (v + ((0 : Nat) : Int)) = true then 1 else 0
    rw [Int.natCast_zero, Int.add_zero, Int.zero_add]
  | d + 1, j, v, h => by
    rw [cnt_split hl hb (by omega), cnt_count hl hb d (j + 1) _ (by omega), cnt_count hl hb d (j + 1) _ (by omega), show (2 : Nat) ^ (d + 1) = 2 ^ d + 2 ^ d by rw [Nat.pow_succ]; omega, countK_add, Int.pow_succ]
    have e1 : 2 * v * 2 ^ d = v * (2 ^ d * 2) := by rw [Int.mul_comm 2 v, Int.mul_assoc, Int.mul_comm 2]
    have e2 : (2 * v + 1) * 2 ^ d = v * (2 ^ d * 2) + ((2 ^ d : Nat) : Int) := by
      rw [Int.add_mul, e1, Int.one_mul]
      congr 1
    rw [e1, e2]
theorem cellsOf_memT {sh c : List Int} (h : BoundC sh c) : ∀ m, m ≤ sh.length → c.take m ∈ cellsOf (sh.take m)
  | 0, _ => by
    rw [List.take_zero, List.take_zero]
    exact List.mem_singleton.mpr rfl
  | m + 1, hm => by
    have hmc : m < c.length := by rw [h.1]; exact hm
    have hb := h.2 m hm
    have e1 : sh.getD m 0 = sh[m] := by rw [List.getD_eq_getElem?_getD, List.getElem?_eq_getElem hm]; rfl
    have e2 : c.getD m 0 = c[m] := by rw [List.getD_eq_getElem?_getD, List.getElem?_eq_getElem hmc]; rfl
    rw [e1, e2, pow_nat] at hb
    rw [List.take_succ_eq_append_getElem hm, List.take_succ_eq_append_getElem hmc, cellsOf_snoc]
    unfold grow
    rw [List.mem_flatMap]
    refine ⟨c.take m, cellsOf_memT h m (by omega), List.mem_map.mpr ⟨c[m].toNat, List.mem_range.mpr (by omega), ?_⟩⟩
    rw [show ((c[m].toNat : Nat) : Int) = c[m] by omega]
theorem cellsOf_mem {sh c : List Int} (h : BoundC sh c) : c ∈ cellsOf sh := by
  have := cellsOf_memT h sh.length (Nat.le_refl _)
  rw [List.take_length, List.take_of_length_le (by rw [h.1]; exact Nat.le_refl _)] at this
  exact this
/-! ### keys in a box: which they are, how many -/
theorem pre_nums {l : List Nat} {K : Int} {n k : Nat} (h : k < n) : (nums l K n l.length).getD k 0 = pre l k l.length K := by
  rw [List.getD_eq_getElem?_getD, nums_at h]
  show cellN l K k l.length = _
  rw [cellN_pre _ (Nat.le_refl _), Nat.sub_self, Int.pow_zero, Int.ediv_one]
theorem pre_key {l : List Nat} {n k : Nat} {cs : List Int} (hc : CellOk l n cs) (h : k < n) : pre l k l.length (keyN l cs l.length) = cs.getD k 0 := by
  rw [← pre_nums h, nums_key hc]
/-- a cell in a box -/
def inC (bx : List (Int × Int)) (cs : List Int) : Bool := (List.range bx.length).all fun k => decide ((bx.getD k (0, 0)).1 ≤ cs.getD k 0) && decide (cs.getD k 0 ≤ (bx.getD k (0, 0)).2)
theorem inB_key {l : List Nat} {bx : List (Int × Int)} {cs : List Int} (hc : CellOk l bx.length cs) : inB l bx (keyN l cs l.length) = inC bx cs := by
  unfold inB inC
  rw [Bool.eq_iff_iff, List.all_eq_true, List.all_eq_true]
  constructor <;> intro h k hk
  · have := h k hk
    rw [pre_key hc (List.mem_range.mp hk)] at this
    exact this
  · rw [pre_key hc (List.mem_range.mp hk)]
    exact h k hk
/-- the keys in a box, ascending -/
def listB (p : Int → Bool) (m : Nat) : List Int := ((List.range m).filter fun i => p ((i : Nat) : Int)).map fun i => ((i : Nat) : Int)
theorem listB_succ (p : Int → Bool) (m : Nat) : listB p (m + 1) = if p ((m : Nat) : Int) = true then listB p m ++ [((m : Nat) : Int)] else listB p m := by
  unfold listB
  rw [List.range_succ, List.filter_append, List.map_append]
  by_cases h : p ((m : Nat) : Int) = true
  · rw [if_pos h, List.filter_cons, if_pos h]
    rfl
  · rw [if_neg h, List.filter_cons, if_neg h]
    simp
theorem listB_mem {p : Int → Bool} {m : Nat} {x : Int} : x ∈ listB p m ↔ 0 ≤ x ∧ x < (m : Int) ∧ p x = true := by
  unfold listB
  rw [List.mem_map]
  constructor
  · rintro ⟨i, hi, rfl⟩
    obtain ⟨h1, h2⟩ := List.mem_filter.mp hi
    have := List.mem_range.mp h1
    exact ⟨by omega, by omega, h2⟩
  · rintro ⟨h0, h1, h2⟩
    refine ⟨x.toNat, List.mem_filter.mpr ⟨List.mem_range.mpr (by omega), ?_⟩, by omega⟩
    show p ((x.toNat : Nat) : Int) = true
    rw [show ((x.toNat : Nat) : Int) = x by omega]
    exact h2
theorem listB_asc (p : Int → Bool) : ∀ m : Nat, (listB p m).Pairwise (· < ·)
  | 0 => List.Pairwise.nil
  | m + 1 => by
    rw [listB_succ]
    split
    · rw [List.pairwise_append]
      refine ⟨listB_asc p m, List.pairwise_singleton _ _, fun x hx y hy => ?_⟩
      rw [List.mem_singleton.mp hy]
      exact (listB_mem.mp hx).2.1
    · exact listB_asc p m
theorem listB_len (p : Int → Bool) : ∀ m : Nat, ((listB p m).length : Int) = countK p 0 m
  | 0 => rfl
  | m + 1 => by
    rw [listB_succ, countK, ← listB_len p m, Int.zero_add]
    split
    · rw [List.length_append]
      rfl
    · omega
theorem asc_ext : ∀ (a b : List Int), a.Pairwise (· < ·) → b.Pairwise (· < ·) → (∀ x, x ∈ a ↔ x ∈ b) → a = b
  | [], [], _, _, _ => rfl
  | [], y :: b, _, _, h => by
    have := (h y).mpr List.mem_cons_self
    cases this
  | x :: a, [], _, _, h => by
    have := (h x).mp List.mem_cons_self
    cases this
  | x :: a, y :: b, ha, hb, h => by
    obtain ⟨a1, a2⟩ := List.pairwise_cons.mp ha
    obtain ⟨b1, b2⟩ := List.pairwise_cons.mp hb
    have e : x = y := by
      rcases List.mem_cons.mp ((h x).mp List.mem_cons_self) with z | z
      · exact z
      · rcases List.mem_cons.mp ((h y).mpr List.mem_cons_self) with w | w
        · exact w.symm
        · have := a1 y w
          have := b1 x z
          omega
    subst e
    congr 1
    refine asc_ext a b a2 b2 fun z => ?_
    constructor
    · intro hz
      rcases List.mem_cons.mp ((h z).mp (List.mem_cons_of_mem _ hz)) with w | w
      · have := a1 z hz
        omega
      · exact w
    · intro hz
      rcases List.mem_cons.mp ((h z).mpr (List.mem_cons_of_mem _ hz)) with w | w
      · have := b1 z hz
        omega
      · exact w
/-- the keys that the law finds cell by cell -/
theorem listed_eq {l : List Nat} {sh : List Int} {bx : List (Int × Int)} {ns : List Int} (hsh : ShOk sh) (hW : WOk l sh.length) (hl : cnts l sh.length = sh) (hbl : bx.length = sh.length)
    (hp : ns.Perm (((cellsOf sh).filter (inC bx)).map fun c => keyN l c l.length)) (hs : ns.Pairwise (· ≤ ·)) : ns = listB (inB l bx) (2 ^ l.length) := by
  have ok : ∀ c, c ∈ cellsOf sh → CellOk l sh.length c := fun c hc => CellOk.of hl (cellsOf_bound hc)
  have nd : (((cellsOf sh).filter (inC bx)).map fun c => keyN l c l.length).Nodup := by
    rw [List.nodup_iff_pairwise_ne, List.pairwise_map]
    have nd := cellsOf_nodup sh.length sh (Nat.le_refl _)
    rw [List.take_length] at nd
    refine List.Pairwise.imp_of_mem ?_ (List.nodup_iff_pairwise_ne.mp (nd.filter _))
    intro c d hc hd hne e
    exact hne (keyN_inj (ok c (List.mem_filter.mp hc).1) (ok d (List.mem_filter.mp hd).1) e)
  refine asc_ext _ _ ?_ (listB_asc _ _) fun x => ?_
  · exact (hs.and (hp.nodup_iff.mpr nd)).imp fun {a b} h => by
      have := h.1
      have := h.2
      omega
  · rw [hp.mem_iff, listB_mem, List.mem_map]
    constructor
    · rintro ⟨c, hc, rfl⟩
      obtain ⟨h1, h2⟩ := List.mem_filter.mp hc
      obtain ⟨k0, k1⟩ := keyN_bound l c l.length
      refine ⟨k0, by rw [← pow_nat]; exact k1, ?_⟩
      rw [inB_key (by rw [hbl]; exact ok c h1)]
      exact h2
    · rintro ⟨h0, h1, h2⟩
      rw [← pow_nat] at h1
      have hn := nums_ok l x sh.length
      have hb : BoundC sh (nums l x sh.length l.length) := by
        refine ⟨hn.len, fun k hk => ⟨hn.lo k hk, ?_⟩⟩
        have := hn.hi k hk
        have e : sh.getD k 0 = (l.count (97 + k) : Nat) := by
          have h3 := cnts_at (l := l) hk
          rw [hl] at h3
          rw [List.getD_eq_getElem?_getD, h3]
          rfl
        rw [e, Int.toNat_natCast]
        exact this
      refine ⟨nums l x sh.length l.length, List.mem_filter.mpr ⟨cellsOf_mem hb, ?_⟩, key_back hW.rng h0 h1⟩
      rw [← inB_key (l := l) (by rw [hbl]; exact hn), key_back hW.rng h0 h1]
      exact h2
end WK
namespace WK
open PySem PySem.Spec PyProof.Rows L2
/-! ### boxes in memory -/
def prV (p : Int × Int) : List V := [.int p.1, .int p.2]
def BoxAt (H : Hp) (b : Addr) (bx : List (Int × Int)) : Prop := ∃ xs, H b = some (.tup xs) ∧ TupsAt H xs (bx.map prV)
theorem BoxAt.same {H H' : Hp} {b : Addr} {bx : List (Int × Int)} (h : BoxAt H b bx) (s : Same H H') : BoxAt H' b bx := by
  obtain ⟨xs, h1, h2⟩ := h
  exact ⟨xs, s _ _ h1, h2.same s⟩
theorem BoxAt.but {H H' : Hp} {b D : Addr} {bx : List (Int × Int)} {zs : List V} (h : BoxAt H b bx) (x : But D H H') (hD : H D = some (.lst zs)) : BoxAt H' b bx := by
  obtain ⟨xs, h1, h2⟩ := h
  exact ⟨xs, x.keepT hD h1, h2.but x hD⟩
theorem Br.boxAt {a b : Addr} {n : Nat} {H H' : Hp} {bx : List (Int × Int)} (B : Br a n H) (x : But a H H') (h : BoxAt H b bx) : BoxAt H' b bx := by
  obtain ⟨o, h1, _, _, _, e, _⟩ := B
  exact h.but x (by rw [h1, e])
/-- an item of a box -/
theorem TupsAt.pair {H : Hp} {xs : List V} {bx : List (Int × Int)} {j : Nat} {x : V} (h : TupsAt H xs (bx.map prV)) (hx : xs[j]? = some x) : ∃ a, x = .ref a ∧ j < bx.length ∧ H a = some (.tup [.int (bx.getD j (0, 0)).1, .int (bx.getD j (0, 0)).2]) := by
  obtain ⟨a, t, e, ht, ha⟩ := h.get hx
  rw [List.getElem?_map] at ht
  obtain ⟨p, hp, rfl⟩ := Option.map_eq_some_iff.mp ht
  refine ⟨a, e, (List.getElem?_eq_some_iff.mp hp).1, ?_⟩
  rw [List.getD_eq_getElem?_getD, hp]
  exact ha
theorem TupsAt.lenB {H : Hp} {xs : List V} {bx : List (Int × Int)} (h : TupsAt H xs (bx.map prV)) : xs.length = bx.length := by rw [h.1, List.length_map]
def metB (bx cx : List (Int × Int)) : List (Int × Int) := (List.range bx.length).map fun k => (if (cx.getD k (0, 0)).1 > (bx.getD k (0, 0)).1 then (cx.getD k (0, 0)).1 else (bx.getD k (0, 0)).1, if (cx.getD k (0, 0)).2 < (bx.getD k (0, 0)).2 then (cx.getD k (0, 0)).2 else (bx.getD k (0, 0)).2)
def metOk (bx cx : List (Int × Int)) : Bool := (metB bx cx).all fun p => decide (p.1 ≤ p.2)
theorem prodI_snoc : ∀ (xs : List Int) (x : Int), prodI (xs ++ [x]) = prodI xs * x
  | [], x => by
    show x * 1 = 1 * x
    omega
  | y :: xs, x => by
    show y * prodI (xs ++ [x]) = y * prodI xs * x
    rw [prodI_snoc xs x, Int.mul_assoc]
theorem prodI_bound : ∀ xs : List Int, (∀ x ∈ xs, 0 ≤ x ∧ x < 2 ^ 130) → 0 ≤ prodI xs ∧ prodI xs < 2 ^ (130 * xs.length + 1)
  | [], _ => ⟨by decide, by decide⟩
  | x :: xs, h => by
    obtain ⟨a, b⟩ := prodI_bound xs fun y hy => h y (List.mem_cons_of_mem _ hy)
    obtain ⟨c, d⟩ := h x List.mem_cons_self
    refine ⟨Int.mul_nonneg c a, ?_⟩
    have := mul_lt_pow c d a b
    rw [List.length_cons, show 130 * (xs.length + 1) + 1 = 130 + (130 * xs.length + 1) by omega]
    exact this
theorem metB_len (bx cx : List (Int × Int)) : (metB bx cx).length = bx.length := by
  unfold metB
  rw [List.length_map, List.length_range]
theorem metB_at {bx cx : List (Int × Int)} {k : Nat} (h : k < bx.length) : (metB bx cx)[k]? = some (if (cx.getD k (0, 0)).1 > (bx.getD k (0, 0)).1 then (cx.getD k (0, 0)).1 else (bx.getD k (0, 0)).1, if (cx.getD k (0, 0)).2 < (bx.getD k (0, 0)).2 then (cx.getD k (0, 0)).2 else (bx.getD k (0, 0)).2) := by
  unfold metB
  rw [List.getElem?_map, List.getElem?_range h]
  rfl
theorem take_snocG {α : Type} {xs : List α} {i : Nat} {x : α} (h : xs[i]? = some x) : xs.take (i + 1) = xs.take i ++ [x] := by
  obtain ⟨hl, e⟩ := List.getElem?_eq_some_iff.mp h
  rw [List.take_succ_eq_append_getElem hl, e]
def halfB (bx : List (Int × Int)) (a : Nat) (bit : Int) : List (Int × Int) := bx.set a (if bit = 0 then ((bx.getD a (0, 0)).1, ((bx.getD a (0, 0)).1 + (bx.getD a (0, 0)).2 + 1) / 2 - 1) else (((bx.getD a (0, 0)).1 + (bx.getD a (0, 0)).2 + 1) / 2, (bx.getD a (0, 0)).2))
/-- one item exchanged -/
theorem TupsAt.setB {H : Hp} {xs : List V} {bx : List (Int × Int)} {a : Nat} {q : Addr} {p : Int × Int} (h : TupsAt H xs (bx.map prV)) (hq : H q = some (.tup (prV p))) : TupsAt H (xs.set a (.ref q)) ((bx.set a p).map prV) := by
  refine ⟨by rw [List.length_set, List.length_map, List.length_set, h.lenB], fun j x t hx ht => ?_⟩
  by_cases e : j = a
  · subst e
    have hj : j < xs.length := by
      have := (List.getElem?_eq_some_iff.mp hx).1
      rw [List.length_set] at this
      exact this
    rw [List.getElem?_set_self hj] at hx
    rw [List.getElem?_map, List.getElem?_set_self (by rw [← h.lenB]; exact hj)] at ht
    cases hx
    cases ht
    exact ⟨q, rfl, hq⟩
  · rw [List.getElem?_set_ne (Ne.symm e)] at hx
    rw [List.getElem?_map, List.getElem?_set_ne (Ne.symm e), ← List.getElem?_map] at ht
    exact h.2 j x t hx ht
structure BoxOk (l : List Nat) (n : Nat) (bx : List (Int × Int)) : Prop where
  len : bx.length = n
  lo : ∀ k, k < n → 0 ≤ (bx.getD k (0, 0)).1
  le : ∀ k, k < n → (bx.getD k (0, 0)).1 ≤ (bx.getD k (0, 0)).2
  hi : ∀ k, k < n → (bx.getD k (0, 0)).2 < 2 ^ l.count (97 + k)
theorem prodI_zero : ∀ (ks : List Nat) (f : Nat → Int) (a : Nat), a ∈ ks → f a = 0 → prodI (ks.map f) = 0
  | [], _, _, h, _ => by cases h
  | k :: ks, f, a, h, e => by
    rw [List.map_cons, prodI]
    rcases List.mem_cons.mp h with z | z
    · rw [← z, e, Int.zero_mul]
    · rw [prodI_zero ks f a z e, Int.mul_zero]
theorem met_cells (bx cx : List (Int × Int)) : prodI ((List.range bx.length).map fun k => ov (cx.getD k (0, 0)).1 (cx.getD k (0, 0)).2 (bx.getD k (0, 0)).1 (bx.getD k (0, 0)).2) = if metOk bx cx = true then prodI ((metB bx cx).map fun p => p.2 - p.1 + 1) else 0 := by
  by_cases h : metOk bx cx = true
  · rw [if_pos h]
    unfold metB
    rw [List.map_map]
    congr 1
    apply List.map_congr_left
    intro k hk
    have hk' := List.mem_range.mp hk
    unfold metOk at h
    have := List.all_eq_true.mp h _ (List.mem_of_getElem? (metB_at (cx := cx) hk'))
    have := of_decide_eq_true this
    unfold ov
    simp only [Function.comp]
    rw [if_pos (by omega)]
  · rw [if_neg h]
    have h' : metOk bx cx = false := by
      cases e : metOk bx cx with
      | true => exact absurd e h
      | false => rfl
    unfold metOk at h'
    rw [List.all_eq_false] at h'
    obtain ⟨p, hp, hd⟩ := h'
    obtain ⟨k, hk⟩ := List.mem_iff_getElem?.mp hp
    have hkl : k < bx.length := by
      have := (List.getElem?_eq_some_iff.mp hk).1
      rw [metB_len] at this
      exact this
    rw [metB_at hkl] at hk
    have e := Option.some.inj hk
    subst e
    refine prodI_zero _ _ k (List.mem_range.mpr hkl) ?_
    unfold ov
    rw [decide_eq_true_eq] at hd
    rw [if_neg (by omega)]
theorem met_small {bx cx : List (Int × Int)} (h129 : ∀ k, k < bx.length → (bx.getD k (0, 0)).2 < (bx.getD k (0, 0)).1 + 2 ^ 129) (h : metOk bx cx = true) : ∀ p ∈ metB bx cx, p.1 ≤ p.2 + 1 ∧ p.2 < p.1 + 2 ^ 129 := fun p hp => by
  unfold metOk at h
  have h1 := of_decide_eq_true (List.all_eq_true.mp h p hp)
  obtain ⟨k, hk⟩ := List.mem_iff_getElem?.mp hp
  have hkl : k < bx.length := by
    have := (List.getElem?_eq_some_iff.mp hk).1
    rw [metB_len] at this
    exact this
  have h2 := h129 k hkl
  rw [metB_at hkl] at hk
  have e := Option.some.inj hk
  subst e
  refine ⟨by omega, ?_⟩
  show (if _ then _ else _) < (if _ then _ else _) + _
  split <;> split <;> omega
theorem BoxOk.small {l : List Nat} {n : Nat} {bx : List (Int × Int)} (h : BoxOk l n bx) (hW : WOk l n) : ∀ k, k < bx.length → (bx.getD k (0, 0)).2 < (bx.getD k (0, 0)).1 + 2 ^ 129 := fun k hk => by
  rw [h.len] at hk
  have h0 := h.lo k hk
  have h1 := h.hi k hk
  have h2 := hW.hi k hk
  have := pow_le (a := l.count (97 + k)) (b := 129) (by omega)
  omega
/-- a node as a box -/
def nodeBx (l : List Nat) (n j : Nat) (v : Int) : List (Int × Int) := (List.range n).map fun k => (nlo l k j v, nhi l k j v)
theorem nodeBx_len (l : List Nat) (n j : Nat) (v : Int) : (nodeBx l n j v).length = n := by
  unfold nodeBx
  rw [List.length_map, List.length_range]
theorem nodeBx_get {l : List Nat} {n j k : Nat} {v : Int} (h : k < n) : (nodeBx l n j v).getD k (0, 0) = (nlo l k j v, nhi l k j v) := by
  unfold nodeBx
  rw [List.getD_eq_getElem?_getD, List.getElem?_map, List.getElem?_range h]
  rfl
theorem nodeBx_root {l : List Nat} {sh : List Int} (hl : cnts l sh.length = sh) : (sh.map fun b => ((0 : Int), (2 : Int) ^ b.toNat - 1)) = nodeBx l sh.length 0 0 := by
  apply List.ext_getElem?
  intro k
  by_cases hk : k < sh.length
  · unfold nodeBx
    rw [List.getElem?_map, List.getElem?_map, List.getElem?_range hk, List.getElem?_eq_getElem hk]
    have h1 := cnts_at (l := l) hk
    rw [hl, List.getElem?_eq_getElem hk] at h1
    have e := Option.some.inj h1
    show some ((0 : Int), (2 : Int) ^ (sh[k]).toNat - 1) = some (nlo l k 0 0, nhi l k 0 0)
    unfold nlo nhi
    rw [rm_zero, e, Int.toNat_natCast]
    show _ = some ((0 : Int) * _, ((0 : Int) + 1) * _ - 1)
    rw [Int.zero_mul, Int.zero_add, Int.one_mul]
  · rw [List.getElem?_eq_none (by rw [List.length_map]; omega), List.getElem?_eq_none (by rw [nodeBx_len]; omega)]
theorem nodeBx_half {l : List Nat} {n j : Nat} {v b : Int} (hl : ∀ c ∈ l, 97 ≤ c ∧ c < 97 + n) (h : j < l.length) (hb : b = 0 ∨ b = 1) : halfB (nodeBx l n j v) (l.getD j 0 - 97) b = nodeBx l n (j + 1) (2 * v + b) := by
  have hg : l.getD j 0 = l[j] := by rw [List.getD_eq_getElem?_getD, List.getElem?_eq_getElem h]; rfl
  obtain ⟨c1, c2⟩ := hl _ (List.getElem_mem h)
  rw [← hg] at c1 c2
  obtain ⟨a, ha⟩ : ∃ a, l.getD j 0 = 97 + a := ⟨l.getD j 0 - 97, by omega⟩
  have han : a < n := by omega
  obtain ⟨m1, m2, m3, m4, m5, m6⟩ := nlo_mid (v := v) h ha
  rw [ha, show 97 + a - 97 = a by omega]
  unfold halfB
  rw [nodeBx_get han]
  apply List.ext_getElem?
  intro k
  by_cases hk : k < n
  · have e2 : (nodeBx l n (j + 1) (2 * v + b))[k]? = some (nlo l k (j + 1) (2 * v + b), nhi l k (j + 1) (2 * v + b)) := by
      unfold nodeBx
      rw [List.getElem?_map, List.getElem?_range hk]
      rfl
    rw [e2]
    by_cases e : k = a
    · subst e
      rw [List.getElem?_set_self (by rw [nodeBx_len]; exact hk)]
      congr 1
      rcases hb with rfl | rfl
      · rw [if_pos rfl, m2, m3]
        show (_, _ / 2 - 1) = _
        rw [m1]
      · rw [if_neg (by decide), m4]
        show (_ / 2, _) = _
        rw [m1]
    · rw [List.getElem?_set_ne (Ne.symm e)]
      obtain ⟨o1, o2⟩ := nlo_other (v := v) (b := b) (k := k) h (by omega) (by omega) (by omega)
      rw [o1, o2]
      unfold nodeBx
      rw [List.getElem?_map, List.getElem?_range hk]
      rfl
  · rw [List.getElem?_eq_none (by rw [List.length_set, nodeBx_len]; omega), List.getElem?_eq_none (by rw [nodeBx_len]; omega)]
theorem cells_node {l : List Nat} {bx : List (Int × Int)} {n j : Nat} {v : Int} (h : bx.length = n) : prodI ((List.range bx.length).map fun k => ov ((nodeBx l n j v).getD k (0, 0)).1 ((nodeBx l n j v).getD k (0, 0)).2 (bx.getD k (0, 0)).1 (bx.getD k (0, 0)).2) = cntN l bx j v := by
  unfold cntN
  congr 1
  apply List.map_congr_left
  intro k hk
  rw [nodeBx_get (by rw [← h]; exact List.mem_range.mp hk)]
theorem WOk.sh {l : List Nat} {n : Nat} (h : WOk l n) : ShOk (cnts l n) := by
  refine ⟨by rw [cnts_len]; exact h.n1, by rw [cnts_len]; exact h.n4, fun b hb => ?_, by rw [h.sum]; have := h.le; omega⟩
  obtain ⟨k, hk, rfl⟩ := cnts_mem hb
  have := h.lo k hk
  have := h.hi k hk
  omega
theorem key_bit (key : Int) (d : Nat) : key / 2 ^ d = 2 * (key / 2 ^ (d + 1)) + key / 2 ^ d % 2 := by
  rw [ediv_pow_succ']
  generalize key / 2 ^ d = X
  omega
theorem count_up (p : Int → Bool) {V : Int} {d : Nat} (h : 0 ≤ V) : countK p 0 (V * 2 ^ (d + 1)).toNat + countK p (2 * V * 2 ^ d) (2 ^ d) = countK p 0 ((2 * V + 1) * 2 ^ d).toNat := by
  have e1 : V * 2 ^ (d + 1) = 2 * V * 2 ^ d := by rw [Int.pow_succ, Int.mul_comm (2 ^ d) 2, ← Int.mul_assoc, Int.mul_comm V 2]
  have e2 : (2 * V + 1) * 2 ^ d = 2 * V * 2 ^ d + 2 ^ d := by rw [Int.add_mul, Int.one_mul]
  have h0 : 0 ≤ 2 * V * 2 ^ d := Int.mul_nonneg (by omega) (Int.le_of_lt (pow_pos' d))
  rw [e1, e2]
  generalize 2 * V * 2 ^ d = S at *
  have e3 : (S + 2 ^ d).toNat = S.toNat + 2 ^ d := by
    rw [pow_nat]
    generalize (2 : Nat) ^ d = M
    omega
  rw [e3, countK_add, Int.zero_add, show ((S.toNat : Nat) : Int) = S by omega]
end WK
/-! ## boxes of shapes, finer weaves -/
namespace WK
open PySem PySem.Spec PyProof.Rows L2
structure BoxSh (sh : List Int) (bx : List (Int × Int)) : Prop where
  len : bx.length = sh.length
  lo : ∀ k, k < sh.length → 0 ≤ (bx.getD k (0, 0)).1
  le : ∀ k, k < sh.length → (bx.getD k (0, 0)).1 ≤ (bx.getD k (0, 0)).2
  hi : ∀ k, k < sh.length → (bx.getD k (0, 0)).2 < 2 ^ (sh.getD k 0).toNat
theorem cnts_get {l : List Nat} {sh : List Int} (hl : cnts l sh.length = sh) {k : Nat} (hk : k < sh.length) : sh.getD k 0 = (l.count (97 + k) : Nat) := by
  have h1 := cnts_at (l := l) hk
  rw [hl] at h1
  rw [List.getD_eq_getElem?_getD, h1]
  rfl
theorem BoxSh.ok {sh : List Int} {bx : List (Int × Int)} {l : List Nat} (h : BoxSh sh bx) (hl : cnts l sh.length = sh) : BoxOk l sh.length bx := by
  refine ⟨h.len, h.lo, h.le, fun k hk => ?_⟩
  have := h.hi k hk
  rw [cnts_get hl hk, Int.toNat_natCast] at this
  exact this
theorem getP_snoc_lt {bx : List (Int × Int)} {p : Int × Int} {k : Nat} (h : k < bx.length) : (bx ++ [p]).getD k (0, 0) = bx.getD k (0, 0) := by
  rw [List.getD_eq_getElem?_getD, List.getD_eq_getElem?_getD, List.getElem?_append_left h]
theorem getP_snoc_eq {bx : List (Int × Int)} {p : Int × Int} {k : Nat} (h : k = bx.length) : (bx ++ [p]).getD k (0, 0) = p := by
  rw [List.getD_eq_getElem?_getD, h, List.getElem?_append_right (Nat.le_refl _), Nat.sub_self]
  rfl
/-- the box of all finer cells -/
def wideB (bx : List (Int × Int)) (more : List Int) : List (Int × Int) := (List.range bx.length).map fun k => ((bx.getD k (0, 0)).1 * 2 ^ (more.getD k 0).toNat, ((bx.getD k (0, 0)).2 + 1) * 2 ^ (more.getD k 0).toNat - 1)
theorem wideB_len (bx : List (Int × Int)) (more : List Int) : (wideB bx more).length = bx.length := by
  unfold wideB
  rw [List.length_map, List.length_range]
theorem wideB_get {bx : List (Int × Int)} {more : List Int} {k : Nat} (h : k < bx.length) : (wideB bx more).getD k (0, 0) = ((bx.getD k (0, 0)).1 * 2 ^ (more.getD k 0).toNat, ((bx.getD k (0, 0)).2 + 1) * 2 ^ (more.getD k 0).toNat - 1) := by
  unfold wideB
  rw [List.getD_eq_getElem?_getD, List.getElem?_map, List.getElem?_range h]
  rfl
theorem pre_left {l t : List Nat} {k : Nat} : ∀ (j : Nat) (v : Int), j ≤ l.length → pre (l ++ t) k j v = pre l k j v
  | 0, _, _ => rfl
  | j + 1, v, h => by
    have e : (l ++ t).getD j 0 = l.getD j 0 := by rw [List.getD_eq_getElem?_getD, List.getD_eq_getElem?_getD, List.getElem?_append_left h]
    rw [pre, pre, e, pre_left j _ (by omega)]
theorem pre_append {l t : List Nat} {k : Nat} : ∀ (j : Nat) (v : Int), j ≤ t.length → pre (l ++ t) k (l.length + j) v / 2 ^ (t.take j).count (97 + k) = pre l k l.length (v / 2 ^ j)
  | 0, v, _ => by rw [Nat.add_zero, List.take_zero, List.count_nil, Int.pow_zero, Int.ediv_one, Int.ediv_one, pre_left _ _ (Nat.le_refl _)]
  | j + 1, v, h => by
    have ih := pre_append (l := l) (t := t) (k := k) j (v / 2) (by omega)
    have e : (l ++ t).getD (l.length + j) 0 = t.getD j 0 := by rw [List.getD_eq_getElem?_getD, List.getD_eq_getElem?_getD, List.getElem?_append_right (by omega), Nat.add_sub_cancel_left]
    rw [← Nat.add_assoc, pre, e, count_step h]
    by_cases z : t.getD j 0 = 97 + k
    · simp only [z, if_true]
      rw [ediv_pow_succ, ediv_pow_succ v j, ← ih]
      generalize pre (l ++ t) k (l.length + j) (v / 2) = X
      rw [show (X * 2 + v % 2) / 2 = X by omega]
    · simp only [z, if_false]
      rw [Nat.add_zero, ediv_pow_succ v j, ← ih]
theorem inB_fine {l t : List Nat} {bx : List (Int × Int)} {more : List Int} (hm : ∀ k, k < bx.length → t.count (97 + k) = (more.getD k 0).toNat) (v : Int) : inB (l ++ t) (wideB bx more) v = inB l bx (v / 2 ^ t.length) := by
  unfold inB
  rw [wideB_len, Bool.eq_iff_iff, List.all_eq_true, List.all_eq_true]
  have key : ∀ k, k ∈ List.range bx.length → ((decide (((wideB bx more).getD k (0, 0)).1 ≤ pre (l ++ t) k (l ++ t).length v) && decide (pre (l ++ t) k (l ++ t).length v ≤ ((wideB bx more).getD k (0, 0)).2)) = true ↔ (decide ((bx.getD k (0, 0)).1 ≤ pre l k l.length (v / 2 ^ t.length)) && decide (pre l k l.length (v / 2 ^ t.length) ≤ (bx.getD k (0, 0)).2)) = true) := fun k hk => by
    have hk' := List.mem_range.mp hk
    have h := pre_append (l := l) (t := t) (k := k) t.length v (Nat.le_refl _)
    rw [List.take_length, hm k hk'] at h
    rw [wideB_get hk', List.length_append, ← h]
    have p := pow_pos' (more.getD k 0).toNat
    generalize (2 : Int) ^ (more.getD k 0).toNat = S at *
    generalize pre (l ++ t) k (l.length + t.length) v = X
    simp only [Bool.and_eq_true, decide_eq_true_eq]
    have h1 := Int.le_ediv_iff_mul_le (a := (bx.getD k (0, 0)).1) (b := X) p
    have h2 := Int.ediv_lt_iff_lt_mul (a := X) (b := (bx.getD k (0, 0)).2 + 1) p
    constructor
    · rintro ⟨a, b⟩
      exact ⟨h1.mpr a, by have := h2.mpr (by omega); omega⟩
    · rintro ⟨a, b⟩
      exact ⟨h1.mp a, by have := h2.mp (by omega); omega⟩
  constructor <;> intro h k hk
  · exact (key k hk).mp (h k hk)
  · exact (key k hk).mpr (h k hk)
/-- counts over rows of as many finer keys -/
theorem count_const {p : Int → Bool} {a : Int} {c : Bool} : ∀ m : Nat, (∀ i : Nat, i < m → p (a + i) = c) → countK p a m = if c = true then (m : Int) else 0
  | 0, _ => by
    cases c <;> rfl
  | m + 1, h => by
    rw [countK, count_const m fun i hi => h i (by omega), h m (by omega)]
    cases c
    · rfl
    · show (m : Int) + 1 = ((m + 1 : Nat) : Int)
      omega
theorem count_fine {p q : Int → Bool} {S : Nat} (hS : 0 < S) (h : ∀ v : Int, 0 ≤ v → q v = p (v / S)) : ∀ K : Nat, countK q 0 (K * S) = countK p 0 K * S
  | 0 => by rw [Nat.zero_mul]; show (0 : Int) = 0 * _; rw [Int.zero_mul]
  | K + 1 => by
    rw [Nat.succ_mul, countK_add, count_fine hS h K, countK, Int.add_mul, Int.zero_add, Int.zero_add]
    have e := count_const (p := q) (a := ((K * S : Nat) : Int)) (c := p K) S fun i hi => by
      rw [h _ (by omega)]
      congr 1
      have e1 : ((K * S : Nat) : Int) + (i : Int) = ((K * S + i : Nat) : Int) := by omega
      rw [e1, ← Int.natCast_ediv]
      congr 1
      rw [Nat.mul_comm, Nat.mul_add_div hS, Nat.div_eq_of_lt hi, Nat.add_zero]
    rw [e]
    cases p K
    · rw [if_neg (by decide), if_neg (by decide), Int.zero_mul]
    · rw [if_pos rfl, if_pos rfl, Int.one_mul]
theorem count_fine_rest {p q : Int → Bool} {S : Nat} (hS : 0 < S) (h : ∀ v : Int, 0 ≤ v → q v = p (v / S)) (K r : Nat) (hr : r ≤ S) : countK q 0 (K * S + r) = countK p 0 K * S + (if p K = true then (r : Int) else 0) := by
  rw [countK_add, count_fine hS h K, Int.zero_add]
  congr 1
  refine count_const r fun i hi => ?_
  rw [h _ (by omega)]
  congr 1
  have e1 : ((K * S : Nat) : Int) + (i : Int) = ((K * S + i : Nat) : Int) := by omega
  rw [e1, ← Int.natCast_ediv]
  congr 1
  rw [Nat.mul_comm, Nat.mul_add_div hS, Nat.div_eq_of_lt (by omega), Nat.add_zero]
/-- one key alone has so many ahead of it -/
theorem count_mono (p : Int → Bool) {a b : Nat} (h : a ≤ b) : countK p 0 a ≤ countK p 0 b := by
  obtain ⟨c, rfl⟩ := Nat.exists_eq_add_of_le h
  rw [countK_add]
  have := countK_nn p (0 + (a : Int)) c
  omega
theorem count_uniq {p : Int → Bool} {a b : Nat} (ha : p a = true) (hb : p b = true) (h : countK p 0 a = countK p 0 b) : a = b := by
  have key : ∀ {x y : Nat}, p x = true → x < y → countK p 0 x < countK p 0 y := fun {x y} hx hxy => by
    have h1 := count_mono p (a := x + 1) (b := y) hxy
    rw [countK, Int.zero_add, hx, if_pos rfl] at h1
    omega
  rcases Nat.lt_trichotomy a b with l | l | l
  · have := key ha l
    omega
  · exact l
  · have := key hb l
    omega
/-- the i-th of the list -/
theorem listB_get (p : Int → Bool) : ∀ (m i : Nat) (x : Int), (listB p m)[i]? = some x → 0 ≤ x ∧ x < m ∧ p x = true ∧ countK p 0 x.toNat = i
  | 0, i, x, h => by cases h
  | m + 1, i, x, h => by
    rw [listB_succ] at h
    by_cases hp : p ((m : Nat) : Int) = true
    · rw [if_pos hp] at h
      by_cases hi : i < (listB p m).length
      · rw [List.getElem?_append_left hi] at h
        obtain ⟨a, b, c, d⟩ := listB_get p m i x h
        exact ⟨a, by omega, c, d⟩
      · rw [List.getElem?_append_right (by omega)] at h
        have hl := (List.getElem?_eq_some_iff.mp h).1
        simp only [List.length_singleton] at hl
        have e : i = (listB p m).length := by omega
        rw [e, Nat.sub_self] at h
        cases h
        refine ⟨by omega, by omega, hp, ?_⟩
        rw [Int.toNat_natCast, ← listB_len, e]
    · rw [if_neg hp] at h
      obtain ⟨a, b, c, d⟩ := listB_get p m i x h
      exact ⟨a, by omega, c, d⟩
theorem listB_less (p : Int → Bool) : ∀ (m K : Nat), K ≤ m → (((listB p m).filter fun x => decide (x < (K : Int))).length : Int) = countK p 0 K
  | 0, K, h => by
    have : K = 0 := by omega
    subst this
    rfl
  | m + 1, K, h => by
    rw [listB_succ]
    by_cases e : K = m + 1
    · subst e
      have all : ∀ m' : Nat, m' ≤ m + 1 → ((listB p m').filter fun x => decide (x < ((m + 1 : Nat) : Int))) = listB p m' := fun m' hm' => by
        rw [List.filter_eq_self]
        intro x hx
        have := (listB_mem.mp hx).2.1
        exact decide_eq_true (by omega)
      have := all (m + 1) (Nat.le_refl _)
      rw [listB_succ] at this
      rw [this, ← listB_succ, listB_len]
    · have ih := listB_less p m K (by omega)
      by_cases hp : p ((m : Nat) : Int) = true
      · rw [if_pos hp, List.filter_append, List.filter_cons, if_neg (by rw [decide_eq_true_eq]; omega), List.filter_nil, List.append_nil]
        exact ih
      · rw [if_neg hp]
        exact ih
end WK
namespace K20
open PySem PySem.Spec PyProof.Rows L2 WK
/-! ## the text, by places -/
def top (i : Nat) : Stmt := PySem.Challenge.pw_wovenkeys_k20_ranks_and_nth_keys.main.body.getD i (.Pass ⟨0, 0, 0, 0⟩)
abbrev s_is_int : Stmt := top 12
abbrev N_is_int : List Str := ["value"]
theorem sc_is_int : FnScope N_is_int ["value"] (defScope s_is_int) := ⟨rfl, rfl, rfl, by decide +kernel, rfl, by decide +kernel, by decide +kernel⟩
abbrev s_require_index : Stmt := top 13
abbrev N_require_index : List Str := ["value"]
theorem sc_require_index : FnScope N_require_index ["value"] (defScope s_require_index) := ⟨rfl, rfl, rfl, by decide +kernel, rfl, by decide +kernel, by decide +kernel⟩
abbrev s_is_stretch : Stmt := top 14
abbrev N_is_stretch : List Str := ["bits", "value"]
theorem sc_is_stretch : FnScope N_is_stretch ["bits", "value"] (defScope s_is_stretch) := ⟨rfl, rfl, rfl, by decide +kernel, rfl, by decide +kernel, by decide +kernel⟩
abbrev s_is_box_of : Stmt := top 15
abbrev N_is_box_of : List Str := ["shape", "value", "bits", "stretch"]
theorem sc_is_box_of : FnScope N_is_box_of ["shape", "value"] (defScope s_is_box_of) := ⟨rfl, rfl, rfl, by decide +kernel, rfl, by decide +kernel, by decide +kernel⟩
abbrev s_require_box : Stmt := top 16
abbrev N_require_box : List Str := ["shape", "value"]
theorem sc_require_box : FnScope N_require_box ["shape", "value"] (defScope s_require_box) := ⟨rfl, rfl, rfl, by decide +kernel, rfl, by decide +kernel, by decide +kernel⟩
abbrev s_require_key : Stmt := top 17
abbrev N_require_key : List Str := ["shape", "value"]
theorem sc_require_key : FnScope N_require_key ["shape", "value"] (defScope s_require_key) := ⟨rfl, rfl, rfl, by decide +kernel, rfl, by decide +kernel, by decide +kernel⟩
abbrev s_product_of : Stmt := top 19
abbrev N_product_of : List Str := ["numbers", "found", "number"]
theorem sc_product_of : FnScope N_product_of ["numbers"] (defScope s_product_of) := ⟨rfl, rfl, rfl, by decide +kernel, rfl, by decide +kernel, by decide +kernel⟩
abbrev s_cells_in : Stmt := top 20
abbrev N_cells_in : List Str := ["box", "low", "high"]
theorem sc_cells_in : FnScope N_cells_in ["box"] (defScope s_cells_in) := ⟨rfl, rfl, rfl, by decide +kernel, rfl, by decide +kernel, by decide +kernel⟩
abbrev s_met_box : Stmt := top 21
abbrev N_met_box : List Str := ["one", "other", "found", "left", "right", "low", "high"]
theorem sc_met_box : FnScope N_met_box ["one", "other"] (defScope s_met_box) := ⟨rfl, rfl, rfl, by decide +kernel, rfl, by decide +kernel, by decide +kernel⟩
abbrev s_read_times : Stmt := top 26
abbrev N_read_times : List Str := ["text", "at", "end"]
theorem sc_read_times : FnScope N_read_times ["text", "at"] (defScope s_read_times) := ⟨rfl, rfl, rfl, by decide +kernel, rfl, by decide +kernel, by decide +kernel⟩
abbrev s_read_parts : Stmt := top 27
abbrev N_read_parts : List Str := ["text", "at", "depth", "found", "content", "end", "times"]
theorem sc_read_parts : FnScope N_read_parts ["text", "at", "depth"] (defScope s_read_parts) := ⟨rfl, rfl, rfl, by decide +kernel, rfl, by decide +kernel, by decide +kernel⟩
abbrev s_count_letter : Stmt := top 28
abbrev N_count_letter : List Str := ["parts", "letter", "found", "content", "times"]
theorem sc_count_letter : FnScope N_count_letter ["parts", "letter"] (defScope s_count_letter) := ⟨rfl, rfl, rfl, by decide +kernel, rfl, by decide +kernel, by decide +kernel⟩
abbrev s_written : Stmt := top 29
abbrev N_written : List Str := ["parts", "content", "times"]
theorem sc_written : FnScope N_written ["parts"] (defScope s_written) := ⟨rfl, rfl, rfl, by decide +kernel, rfl, by decide +kernel, by decide +kernel⟩
abbrev s_read_weave : Stmt := top 30
abbrev N_read_weave : List Str := ["text", "parts", "at", "counts", "letter"]
theorem sc_read_weave : FnScope N_read_weave ["text"] (defScope s_read_weave) := ⟨rfl, rfl, rfl, by decide +kernel, rfl, by decide +kernel, by decide +kernel⟩
abbrev s_Weave___init__ : Stmt := inClass (top 32) 0
abbrev N_Weave___init__ : List Str := ["self", "text", "letter"]
theorem sc_Weave___init__ : FnScope N_Weave___init__ ["self", "text"] (defScope s_Weave___init__) := ⟨rfl, rfl, rfl, by decide +kernel, rfl, by decide +kernel, by decide +kernel⟩
abbrev s_Weave_letters : Stmt := inClass (top 32) 1
abbrev N_Weave_letters : List Str := ["self"]
theorem sc_Weave_letters : FnScope N_Weave_letters ["self"] (defScope s_Weave_letters) := ⟨rfl, rfl, rfl, by decide +kernel, rfl, by decide +kernel, by decide +kernel⟩
abbrev s_Weave_shape : Stmt := inClass (top 32) 3
abbrev N_Weave_shape : List Str := ["self"]
theorem sc_Weave_shape : FnScope N_Weave_shape ["self"] (defScope s_Weave_shape) := ⟨rfl, rfl, rfl, by decide +kernel, rfl, by decide +kernel, by decide +kernel⟩
abbrev s_require_weave : Stmt := top 33
abbrev N_require_weave : List Str := ["value"]
theorem sc_require_weave : FnScope N_require_weave ["value"] (defScope s_require_weave) := ⟨rfl, rfl, rfl, by decide +kernel, rfl, by decide +kernel, by decide +kernel⟩
abbrev s_whole_box : Stmt := top 35
abbrev N_whole_box : List Str := ["shape", "bits"]
theorem sc_whole_box : FnScope N_whole_box ["shape"] (defScope s_whole_box) := ⟨rfl, rfl, rfl, by decide +kernel, rfl, by decide +kernel, by decide +kernel⟩
abbrev s_half_of : Stmt := top 36
abbrev N_half_of : List Str := ["node", "axis", "bit", "low", "high", "middle", "part"]
theorem sc_half_of : FnScope N_half_of ["node", "axis", "bit"] (defScope s_half_of) := ⟨rfl, rfl, rfl, by decide +kernel, rfl, by decide +kernel, by decide +kernel⟩
abbrev s_bits_of : Stmt := top 37
abbrev N_bits_of : List Str := ["letters", "key", "left", "found", "letter"]
theorem sc_bits_of : FnScope N_bits_of ["letters", "key"] (defScope s_bits_of) := ⟨rfl, rfl, rfl, by decide +kernel, rfl, by decide +kernel, by decide +kernel⟩
abbrev s_require_three : Stmt := top 38
abbrev N_require_three : List Str := ["weave", "box", "key"]
theorem sc_require_three : FnScope N_require_three ["weave", "box", "key"] (defScope s_require_three) := ⟨rfl, rfl, rfl, by decide +kernel, rfl, by decide +kernel, by decide +kernel⟩
abbrev s_cells_met : Stmt := top 39
abbrev N_cells_met : List Str := ["box", "node", "both"]
theorem sc_cells_met : FnScope N_cells_met ["box", "node"] (defScope s_cells_met) := ⟨rfl, rfl, rfl, by decide +kernel, rfl, by decide +kernel, by decide +kernel⟩
abbrev s_rank : Stmt := top 40
abbrev N_rank : List Str := ["weave", "box", "key", "node", "found", "axis", "bit"]
theorem sc_rank : FnScope N_rank ["weave", "box", "key"] (defScope s_rank) := ⟨rfl, rfl, rfl, by decide +kernel, rfl, by decide +kernel, by decide +kernel⟩
abbrev s_nth_key : Stmt := top 41
abbrev N_nth_key : List Str := ["weave", "box", "index", "node", "key", "letter", "axis", "many", "bit"]
theorem sc_nth_key : FnScope N_nth_key ["weave", "box", "index"] (defScope s_nth_key) := ⟨rfl, rfl, rfl, by decide +kernel, rfl, by decide +kernel, by decide +kernel⟩
abbrev s__law_brook : Stmt := top 43
abbrev N__law_brook : List Str := ["_law_script", "_law_k", "_law_cell"]
theorem sc__law_brook : FnScope N__law_brook ["_law_script", "_law_k"] (defScope s__law_brook) := ⟨rfl, rfl, rfl, by decide +kernel, rfl, by decide +kernel, by decide +kernel⟩
abbrev s__law_dip : Stmt := top 44
abbrev N__law_dip : List Str := ["_law_brook_here", "_law_many", "_law_found", "_law_turn", "_law_mixed"]
theorem sc__law_dip : FnScope N__law_dip ["_law_brook_here", "_law_many"] (defScope s__law_dip) := ⟨rfl, rfl, rfl, by decide +kernel, rfl, by decide +kernel, by decide +kernel⟩
abbrev s__law_shape : Stmt := top 45
abbrev N__law_shape : List Str := ["_law_brook_here", "_law_most", "_law_axes_here", "_law_found", "_law_turn", "_law_room"]
theorem sc__law_shape : FnScope N__law_shape ["_law_brook_here", "_law_most"] (defScope s__law_shape) := ⟨rfl, rfl, rfl, by decide +kernel, rfl, by decide +kernel, by decide +kernel⟩
abbrev s__law_letters : Stmt := top 46
abbrev N__law_letters : List Str := ["_law_brook_here", "_law_shape_here", "_law_left", "_law_found", "_law_way", "_law_axis", "_law_turn"]
theorem sc__law_letters : FnScope N__law_letters ["_law_brook_here", "_law_shape_here"] (defScope s__law_letters) := ⟨rfl, rfl, rfl, by decide +kernel, rfl, by decide +kernel, by decide +kernel⟩
abbrev s__law_stretch : Stmt := top 47
abbrev N__law_stretch : List Str := ["_law_brook_here", "_law_bits", "_law_top", "_law_way", "_law_one", "_law_block", "_law_low", "_law_other"]
theorem sc__law_stretch : FnScope N__law_stretch ["_law_brook_here", "_law_bits"] (defScope s__law_stretch) := ⟨rfl, rfl, rfl, by decide +kernel, rfl, by decide +kernel, by decide +kernel⟩
abbrev s__law_box : Stmt := top 48
abbrev N__law_box : List Str := ["_law_brook_here", "_law_shape_here", "_law_bits"]
theorem sc__law_box : FnScope N__law_box ["_law_brook_here", "_law_shape_here"] (defScope s__law_box) := ⟨rfl, rfl, rfl, by decide +kernel, rfl, by decide +kernel, by decide +kernel⟩
abbrev s__law_key : Stmt := top 49
abbrev N__law_key : List Str := ["_law_letters_here", "_law_shape_here", "_law_cell", "_law_left", "_law_key_here", "_law_letter", "_law_axis"]
theorem sc__law_key : FnScope N__law_key ["_law_letters_here", "_law_shape_here", "_law_cell"] (defScope s__law_key) := ⟨rfl, rfl, rfl, by decide +kernel, rfl, by decide +kernel, by decide +kernel⟩
abbrev s__law_cells : Stmt := top 50
abbrev N__law_cells : List Str := ["_law_shape_here", "_law_found", "_law_bits", "_law_grown", "_law_cell", "_law_number"]
theorem sc__law_cells : FnScope N__law_cells ["_law_shape_here"] (defScope s__law_cells) := ⟨rfl, rfl, rfl, by decide +kernel, rfl, by decide +kernel, by decide +kernel⟩
abbrev s__law_within : Stmt := top 51
abbrev N__law_within : List Str := ["_law_box_here", "_law_cell", "_law_stretch_here", "_law_number"]
theorem sc__law_within : FnScope N__law_within ["_law_box_here", "_law_cell"] (defScope s__law_within) := ⟨rfl, rfl, rfl, by decide +kernel, rfl, by decide +kernel, by decide +kernel⟩
abbrev s__law_same : Stmt := top 52
abbrev N__law_same : List Str := ["_law_actual", "_law_expected"]
theorem sc__law_same : FnScope N__law_same ["_law_actual", "_law_expected"] (defScope s__law_same) := ⟨rfl, rfl, rfl, by decide +kernel, rfl, by decide +kernel, by decide +kernel⟩
abbrev s__law_listed : Stmt := top 53
abbrev N__law_listed : List Str := ["_law_letters_here", "_law_shape_here", "_law_box_here", "_law_cells_here", "_law_cell"]
theorem sc__law_listed : FnScope N__law_listed ["_law_letters_here", "_law_shape_here", "_law_box_here"] (defScope s__law_listed) := ⟨rfl, rfl, rfl, by decide +kernel, rfl, by decide +kernel, by decide +kernel⟩
abbrev s__law_finer : Stmt := top 54
abbrev N__law_finer : List Str := ["_law_brook_here", "_law_shape_here", "_law_most", "_law_more", "_law_room", "_law_bits", "_law_left", "_law_tail", "_law_axis"]
theorem sc__law_finer : FnScope N__law_finer ["_law_brook_here", "_law_shape_here", "_law_most"] (defScope s__law_finer) := ⟨rfl, rfl, rfl, by decide +kernel, rfl, by decide +kernel, by decide +kernel⟩
abbrev s__law_wide : Stmt := top 55
abbrev N__law_wide : List Str := ["_law_box_here", "_law_more", "_law_low", "_law_high", "_law_bits"]
theorem sc__law_wide : FnScope N__law_wide ["_law_box_here", "_law_more"] (defScope s__law_wide) := ⟨rfl, rfl, rfl, by decide +kernel, rfl, by decide +kernel, by decide +kernel⟩
abbrev s__law_second : Stmt := top 56
abbrev N__law_second : List Str := ["_law_brook_here", "_law_shape_here", "_law_box_here", "_law_tops", "_law_bits", "_law_top", "_law_low", "_law_high"]
theorem sc__law_second : FnScope N__law_second ["_law_brook_here", "_law_shape_here", "_law_box_here"] (defScope s__law_second) := ⟨rfl, rfl, rfl, by decide +kernel, rfl, by decide +kernel, by decide +kernel⟩
abbrev s__law_right : Stmt := top 57
abbrev N__law_right : List Str := ["_law_brook_here", "_law_shape_here", "_law_most", "_law_letters_here", "_law_box_here", "_law_weave", "_law_many", "_law_listed_here", "_law_other", "_law_rows", "_law_index_here", "_law_some", "_law_keys_here", "_law_due", "_law_key_here", "_law_less", "_law_ranks_here", "_law_spot", "_law_more", "_law_tail", "_law_finer_here", "_law_wide_here", "_law_shift", "_law_turn", "_law_rest"]
theorem sc__law_right : FnScope N__law_right ["_law_brook_here", "_law_shape_here", "_law_most"] (defScope s__law_right) := ⟨rfl, rfl, rfl, by decide +kernel, rfl, by decide +kernel, by decide +kernel⟩
abbrev s_law : Stmt := top 58
abbrev N_law : List Str := ["_law_script", "_law_k", "_law_brook_here", "_law_turn", "_law_turns", "_law_centre"]
theorem sc_law : FnScope N_law ["_law_script"] (defScope s_law) := ⟨rfl, rfl, rfl, by decide +kernel, rfl, by decide +kernel, by decide +kernel⟩
/-- what the top has written -/
structure Txt (K : PySem.W.Frag) (mg : Str → Option Value) : Prop where
  n_all : mg "all" = none
  n_bool : mg "bool" = none
  n_int : mg "int" = none
  n_isinstance : mg "isinstance" = none
  n_len : mg "len" = none
  n_list : mg "list" = none
  n_max : mg "max" = none
  n_min : mg "min" = none
  n_range : mg "range" = none
  n_repr : mg "repr" = none
  n_sorted : mg "sorted" = none
  n_str : mg "str" = none
  n_sum : mg "sum" = none
  n_tuple : mg "tuple" = none
  n_zip : mg "zip" = none
  c_AXES : ∃ t, mg "AXES" = some (.str "abcd" t)
  c_MOST_BITS : ∃ t, mg "MOST_BITS" = some (.int 120 t)
  c_MOST_LETTERS : ∃ t, mg "MOST_LETTERS" = some (.int 240 t)
  c_DIGITS : ∃ t, mg "DIGITS" = some (.str "0123456789" t)
  c_MOST_OPEN : ∃ t, mg "MOST_OPEN" = some (.int 8 t)
  c_MOST_TIMES : ∃ t, mg "MOST_TIMES" = some (.int 240 t)
  g_Weave : mg "Weave" = some (.ref (He.ga K "Weave"))
  k_Weave : Cls K (He.ga K "Weave")
  m_Weave : Mk K (He.ga K "Weave") (He.ma K (He.ga K "Weave") "__init__")
  i_Weave : IsC K (He.ga K "Weave")
  a_Weave_own_letters : NoAttr K (He.ga K "Weave") "own_letters"
  a_Weave_own_shape : NoAttr K (He.ga K "Weave") "own_shape"
  f_is_int : ∃ fd, FunD K "is_int" "is_int" (defArgs s_is_int) (defBody s_is_int) (defScope s_is_int) [] [] (He.ga K "is_int") fd
  g_is_int : mg "is_int" = some (.ref (He.ga K "is_int"))
  f_require_index : ∃ fd, FunD K "require_index" "require_index" (defArgs s_require_index) (defBody s_require_index) (defScope s_require_index) [] [] (He.ga K "require_index") fd
  g_require_index : mg "require_index" = some (.ref (He.ga K "require_index"))
  f_is_stretch : ∃ fd, FunD K "is_stretch" "is_stretch" (defArgs s_is_stretch) (defBody s_is_stretch) (defScope s_is_stretch) [] [] (He.ga K "is_stretch") fd
  g_is_stretch : mg "is_stretch" = some (.ref (He.ga K "is_stretch"))
  f_is_box_of : ∃ fd, FunD K "is_box_of" "is_box_of" (defArgs s_is_box_of) (defBody s_is_box_of) (defScope s_is_box_of) [] [] (He.ga K "is_box_of") fd
  g_is_box_of : mg "is_box_of" = some (.ref (He.ga K "is_box_of"))
  f_require_box : ∃ fd, FunD K "require_box" "require_box" (defArgs s_require_box) (defBody s_require_box) (defScope s_require_box) [] [] (He.ga K "require_box") fd
  g_require_box : mg "require_box" = some (.ref (He.ga K "require_box"))
  f_require_key : ∃ fd, FunD K "require_key" "require_key" (defArgs s_require_key) (defBody s_require_key) (defScope s_require_key) [] [] (He.ga K "require_key") fd
  g_require_key : mg "require_key" = some (.ref (He.ga K "require_key"))
  f_product_of : ∃ fd, FunD K "product_of" "product_of" (defArgs s_product_of) (defBody s_product_of) (defScope s_product_of) [] [] (He.ga K "product_of") fd
  g_product_of : mg "product_of" = some (.ref (He.ga K "product_of"))
  f_cells_in : ∃ fd, FunD K "cells_in" "cells_in" (defArgs s_cells_in) (defBody s_cells_in) (defScope s_cells_in) [] [] (He.ga K "cells_in") fd
  g_cells_in : mg "cells_in" = some (.ref (He.ga K "cells_in"))
  f_met_box : ∃ fd, FunD K "met_box" "met_box" (defArgs s_met_box) (defBody s_met_box) (defScope s_met_box) [] [] (He.ga K "met_box") fd
  g_met_box : mg "met_box" = some (.ref (He.ga K "met_box"))
  f_read_times : ∃ fd, FunD K "read_times" "read_times" (defArgs s_read_times) (defBody s_read_times) (defScope s_read_times) [] [] (He.ga K "read_times") fd
  g_read_times : mg "read_times" = some (.ref (He.ga K "read_times"))
  f_read_parts : ∃ fd, FunD K "read_parts" "read_parts" (defArgs s_read_parts) (defBody s_read_parts) (defScope s_read_parts) [] [] (He.ga K "read_parts") fd
  g_read_parts : mg "read_parts" = some (.ref (He.ga K "read_parts"))
  f_count_letter : ∃ fd, FunD K "count_letter" "count_letter" (defArgs s_count_letter) (defBody s_count_letter) (defScope s_count_letter) [] [] (He.ga K "count_letter") fd
  g_count_letter : mg "count_letter" = some (.ref (He.ga K "count_letter"))
  f_written : ∃ fd, FunD K "written" "written" (defArgs s_written) (defBody s_written) (defScope s_written) [] [] (He.ga K "written") fd
  g_written : mg "written" = some (.ref (He.ga K "written"))
  f_read_weave : ∃ fd, FunD K "read_weave" "read_weave" (defArgs s_read_weave) (defBody s_read_weave) (defScope s_read_weave) [] [] (He.ga K "read_weave") fd
  g_read_weave : mg "read_weave" = some (.ref (He.ga K "read_weave"))
  f_Weave___init__ : ∃ fd, FunD K "__init__" "Weave.__init__" (defArgs s_Weave___init__) (defBody s_Weave___init__) (defScope s_Weave___init__) [] [] (He.ma K (He.ga K "Weave") "__init__") fd
  f_Weave_letters : ∃ fd, FunD K "letters" "Weave.letters" (defArgs s_Weave_letters) (defBody s_Weave_letters) (defScope s_Weave_letters) [] [] (gpa K (He.ga K "Weave") "letters") fd
  p_Weave_letters : PropOf K (He.ga K "Weave") "letters" (He.ma K (He.ga K "Weave") "letters") (gpa K (He.ga K "Weave") "letters")
  f_Weave_shape : ∃ fd, FunD K "shape" "Weave.shape" (defArgs s_Weave_shape) (defBody s_Weave_shape) (defScope s_Weave_shape) [] [] (gpa K (He.ga K "Weave") "shape") fd
  p_Weave_shape : PropOf K (He.ga K "Weave") "shape" (He.ma K (He.ga K "Weave") "shape") (gpa K (He.ga K "Weave") "shape")
  f_require_weave : ∃ fd, FunD K "require_weave" "require_weave" (defArgs s_require_weave) (defBody s_require_weave) (defScope s_require_weave) [] [] (He.ga K "require_weave") fd
  g_require_weave : mg "require_weave" = some (.ref (He.ga K "require_weave"))
  f_whole_box : ∃ fd, FunD K "whole_box" "whole_box" (defArgs s_whole_box) (defBody s_whole_box) (defScope s_whole_box) [] [] (He.ga K "whole_box") fd
  g_whole_box : mg "whole_box" = some (.ref (He.ga K "whole_box"))
  f_half_of : ∃ fd, FunD K "half_of" "half_of" (defArgs s_half_of) (defBody s_half_of) (defScope s_half_of) [] [] (He.ga K "half_of") fd
  g_half_of : mg "half_of" = some (.ref (He.ga K "half_of"))
  f_bits_of : ∃ fd, FunD K "bits_of" "bits_of" (defArgs s_bits_of) (defBody s_bits_of) (defScope s_bits_of) [] [] (He.ga K "bits_of") fd
  g_bits_of : mg "bits_of" = some (.ref (He.ga K "bits_of"))
  f_require_three : ∃ fd, FunD K "require_three" "require_three" (defArgs s_require_three) (defBody s_require_three) (defScope s_require_three) [] [] (He.ga K "require_three") fd
  g_require_three : mg "require_three" = some (.ref (He.ga K "require_three"))
  f_cells_met : ∃ fd, FunD K "cells_met" "cells_met" (defArgs s_cells_met) (defBody s_cells_met) (defScope s_cells_met) [] [] (He.ga K "cells_met") fd
  g_cells_met : mg "cells_met" = some (.ref (He.ga K "cells_met"))
  f_rank : ∃ fd, FunD K "rank" "rank" (defArgs s_rank) (defBody s_rank) (defScope s_rank) [] [] (He.ga K "rank") fd
  g_rank : mg "rank" = some (.ref (He.ga K "rank"))
  f_nth_key : ∃ fd, FunD K "nth_key" "nth_key" (defArgs s_nth_key) (defBody s_nth_key) (defScope s_nth_key) [] [] (He.ga K "nth_key") fd
  g_nth_key : mg "nth_key" = some (.ref (He.ga K "nth_key"))
  f__law_brook : ∃ fd, FunD K "_law_brook" "_law_brook" (defArgs s__law_brook) (defBody s__law_brook) (defScope s__law_brook) [] [] (He.ga K "_law_brook") fd
  g__law_brook : mg "_law_brook" = some (.ref (He.ga K "_law_brook"))
  f__law_dip : ∃ fd, FunD K "_law_dip" "_law_dip" (defArgs s__law_dip) (defBody s__law_dip) (defScope s__law_dip) [] [] (He.ga K "_law_dip") fd
  g__law_dip : mg "_law_dip" = some (.ref (He.ga K "_law_dip"))
  f__law_shape : ∃ fd, FunD K "_law_shape" "_law_shape" (defArgs s__law_shape) (defBody s__law_shape) (defScope s__law_shape) [] [] (He.ga K "_law_shape") fd
  g__law_shape : mg "_law_shape" = some (.ref (He.ga K "_law_shape"))
  f__law_letters : ∃ fd, FunD K "_law_letters" "_law_letters" (defArgs s__law_letters) (defBody s__law_letters) (defScope s__law_letters) [] [] (He.ga K "_law_letters") fd
  g__law_letters : mg "_law_letters" = some (.ref (He.ga K "_law_letters"))
  f__law_stretch : ∃ fd, FunD K "_law_stretch" "_law_stretch" (defArgs s__law_stretch) (defBody s__law_stretch) (defScope s__law_stretch) [] [] (He.ga K "_law_stretch") fd
  g__law_stretch : mg "_law_stretch" = some (.ref (He.ga K "_law_stretch"))
  f__law_box : ∃ fd, FunD K "_law_box" "_law_box" (defArgs s__law_box) (defBody s__law_box) (defScope s__law_box) [] [] (He.ga K "_law_box") fd
  g__law_box : mg "_law_box" = some (.ref (He.ga K "_law_box"))
  f__law_key : ∃ fd, FunD K "_law_key" "_law_key" (defArgs s__law_key) (defBody s__law_key) (defScope s__law_key) [] [] (He.ga K "_law_key") fd
  g__law_key : mg "_law_key" = some (.ref (He.ga K "_law_key"))
  f__law_cells : ∃ fd, FunD K "_law_cells" "_law_cells" (defArgs s__law_cells) (defBody s__law_cells) (defScope s__law_cells) [] [] (He.ga K "_law_cells") fd
  g__law_cells : mg "_law_cells" = some (.ref (He.ga K "_law_cells"))
  f__law_within : ∃ fd, FunD K "_law_within" "_law_within" (defArgs s__law_within) (defBody s__law_within) (defScope s__law_within) [] [] (He.ga K "_law_within") fd
  g__law_within : mg "_law_within" = some (.ref (He.ga K "_law_within"))
  f__law_same : ∃ fd, FunD K "_law_same" "_law_same" (defArgs s__law_same) (defBody s__law_same) (defScope s__law_same) [] [] (He.ga K "_law_same") fd
  g__law_same : mg "_law_same" = some (.ref (He.ga K "_law_same"))
  f__law_listed : ∃ fd, FunD K "_law_listed" "_law_listed" (defArgs s__law_listed) (defBody s__law_listed) (defScope s__law_listed) [] [] (He.ga K "_law_listed") fd
  g__law_listed : mg "_law_listed" = some (.ref (He.ga K "_law_listed"))
  f__law_finer : ∃ fd, FunD K "_law_finer" "_law_finer" (defArgs s__law_finer) (defBody s__law_finer) (defScope s__law_finer) [] [] (He.ga K "_law_finer") fd
  g__law_finer : mg "_law_finer" = some (.ref (He.ga K "_law_finer"))
  f__law_wide : ∃ fd, FunD K "_law_wide" "_law_wide" (defArgs s__law_wide) (defBody s__law_wide) (defScope s__law_wide) [] [] (He.ga K "_law_wide") fd
  g__law_wide : mg "_law_wide" = some (.ref (He.ga K "_law_wide"))
  f__law_second : ∃ fd, FunD K "_law_second" "_law_second" (defArgs s__law_second) (defBody s__law_second) (defScope s__law_second) [] [] (He.ga K "_law_second") fd
  g__law_second : mg "_law_second" = some (.ref (He.ga K "_law_second"))
  f__law_right : ∃ fd, FunD K "_law_right" "_law_right" (defArgs s__law_right) (defBody s__law_right) (defScope s__law_right) [] [] (He.ga K "_law_right") fd
  g__law_right : mg "_law_right" = some (.ref (He.ga K "_law_right"))
  f_law : ∃ fd, FunD K "law" "law" (defArgs s_law) (defBody s_law) (defScope s_law) [] [] (He.ga K "law") fd
  g_law : mg "law" = some (.ref (He.ga K "law"))
/-! ## the end -/
def fnl : List DefA := [⟨fun K => He.ga K "is_int", ⟨("is_int", none), "is_int", "is_int", defArgs s_is_int, defBody s_is_int, defScope s_is_int, [], []⟩⟩, ⟨fun K => He.ga K "require_index", ⟨("require_index", none), "require_index", "require_index", defArgs s_require_index, defBody s_require_index, defScope s_require_index, [], []⟩⟩, ⟨fun K => He.ga K "is_stretch", ⟨("is_stretch", none), "is_stretch", "is_stretch", defArgs s_is_stretch, defBody s_is_stretch, defScope s_is_stretch, [], []⟩⟩, ⟨fun K => He.ga K "is_box_of", ⟨("is_box_of", none), "is_box_of", "is_box_of", defArgs s_is_box_of, defBody s_is_box_of, defScope s_is_box_of, [], []⟩⟩, ⟨fun K => He.ga K "require_box", ⟨("require_box", none), "require_box", "require_box", defArgs s_require_box, defBody s_require_box, defScope s_require_box, [], []⟩⟩, ⟨fun K => He.ga K "require_key", ⟨("require_key", none), "require_key", "require_key", defArgs s_require_key, defBody s_require_key, defScope s_require_key, [], []⟩⟩, ⟨fun K => He.ga K "product_of", ⟨("product_of", none), "product_of", "product_of", defArgs s_product_of, defBody s_product_of, defScope s_product_of, [], []⟩⟩, ⟨fun K => He.ga K "cells_in", ⟨("cells_in", none), "cells_in", "cells_in", defArgs s_cells_in, defBody s_cells_in, defScope s_cells_in, [], []⟩⟩, ⟨fun K => He.ga K "met_box", ⟨("met_box", none), "met_box", "met_box", defArgs s_met_box, defBody s_met_box, defScope s_met_box, [], []⟩⟩, ⟨fun K => He.ga K "read_times", ⟨("read_times", none), "read_times", "read_times", defArgs s_read_times, defBody s_read_times, defScope s_read_times, [], []⟩⟩, ⟨fun K => He.ga K "read_parts", ⟨("read_parts", none), "read_parts", "read_parts", defArgs s_read_parts, defBody s_read_parts, defScope s_read_parts, [], []⟩⟩, ⟨fun K => He.ga K "count_letter", ⟨("count_letter", none), "count_letter", "count_letter", defArgs s_count_letter, defBody s_count_letter, defScope s_count_letter, [], []⟩⟩, ⟨fun K => He.ga K "written", ⟨("written", none), "written", "written", defArgs s_written, defBody s_written, defScope s_written, [], []⟩⟩, ⟨fun K => He.ga K "read_weave", ⟨("read_weave", none), "read_weave", "read_weave", defArgs s_read_weave, defBody s_read_weave, defScope s_read_weave, [], []⟩⟩, ⟨fun K => He.ma K (He.ga K "Weave") "__init__", ⟨("Weave.__init__", none), "__init__", "Weave.__init__", defArgs s_Weave___init__, defBody s_Weave___init__, defScope s_Weave___init__, [], []⟩⟩, ⟨fun K => gpa K (He.ga K "Weave") "letters", ⟨("Weave.letters", none), "letters", "Weave.letters", defArgs s_Weave_letters, defBody s_Weave_letters, defScope s_Weave_letters, [], []⟩⟩, ⟨fun K => gpa K (He.ga K "Weave") "shape", ⟨("Weave.shape", none), "shape", "Weave.shape", defArgs s_Weave_shape, defBody s_Weave_shape, defScope s_Weave_shape, [], []⟩⟩, ⟨fun K => He.ga K "require_weave", ⟨("require_weave", none), "require_weave", "require_weave", defArgs s_require_weave, defBody s_require_weave, defScope s_require_weave, [], []⟩⟩, ⟨fun K => He.ga K "whole_box", ⟨("whole_box", none), "whole_box", "whole_box", defArgs s_whole_box, defBody s_whole_box, defScope s_whole_box, [], []⟩⟩, ⟨fun K => He.ga K "half_of", ⟨("half_of", none), "half_of", "half_of", defArgs s_half_of, defBody s_half_of, defScope s_half_of, [], []⟩⟩, ⟨fun K => He.ga K "bits_of", ⟨("bits_of", none), "bits_of", "bits_of", defArgs s_bits_of, defBody s_bits_of, defScope s_bits_of, [], []⟩⟩, ⟨fun K => He.ga K "require_three", ⟨("require_three", none), "require_three", "require_three", defArgs s_require_three, defBody s_require_three, defScope s_require_three, [], []⟩⟩, ⟨fun K => He.ga K "cells_met", ⟨("cells_met", none), "cells_met", "cells_met", defArgs s_cells_met, defBody s_cells_met, defScope s_cells_met, [], []⟩⟩, ⟨fun K => He.ga K "rank", ⟨("rank", none), "rank", "rank", defArgs s_rank, defBody s_rank, defScope s_rank, [], []⟩⟩, ⟨fun K => He.ga K "nth_key", ⟨("nth_key", none), "nth_key", "nth_key", defArgs s_nth_key, defBody s_nth_key, defScope s_nth_key, [], []⟩⟩, ⟨fun K => He.ga K "_law_brook", ⟨("_law_brook", none), "_law_brook", "_law_brook", defArgs s__law_brook, defBody s__law_brook, defScope s__law_brook, [], []⟩⟩, ⟨fun K => He.ga K "_law_dip", ⟨("_law_dip", none), "_law_dip", "_law_dip", defArgs s__law_dip, defBody s__law_dip, defScope s__law_dip, [], []⟩⟩, ⟨fun K => He.ga K "_law_shape", ⟨("_law_shape", none), "_law_shape", "_law_shape", defArgs s__law_shape, defBody s__law_shape, defScope s__law_shape, [], []⟩⟩, ⟨fun K => He.ga K "_law_letters", ⟨("_law_letters", none), "_law_letters", "_law_letters", defArgs s__law_letters, defBody s__law_letters, defScope s__law_letters, [], []⟩⟩, ⟨fun K => He.ga K "_law_stretch", ⟨("_law_stretch", none), "_law_stretch", "_law_stretch", defArgs s__law_stretch, defBody s__law_stretch, defScope s__law_stretch, [], []⟩⟩, ⟨fun K => He.ga K "_law_box", ⟨("_law_box", none), "_law_box", "_law_box", defArgs s__law_box, defBody s__law_box, defScope s__law_box, [], []⟩⟩, ⟨fun K => He.ga K "_law_key", ⟨("_law_key", none), "_law_key", "_law_key", defArgs s__law_key, defBody s__law_key, defScope s__law_key, [], []⟩⟩, ⟨fun K => He.ga K "_law_cells", ⟨("_law_cells", none), "_law_cells", "_law_cells", defArgs s__law_cells, defBody s__law_cells, defScope s__law_cells, [], []⟩⟩, ⟨fun K => He.ga K "_law_within", ⟨("_law_within", none), "_law_within", "_law_within", defArgs s__law_within, defBody s__law_within, defScope s__law_within, [], []⟩⟩, ⟨fun K => He.ga K "_law_same", ⟨("_law_same", none), "_law_same", "_law_same", defArgs s__law_same, defBody s__law_same, defScope s__law_same, [], []⟩⟩, ⟨fun K => He.ga K "_law_listed", ⟨("_law_listed", none), "_law_listed", "_law_listed", defArgs s__law_listed, defBody s__law_listed, defScope s__law_listed, [], []⟩⟩, ⟨fun K => He.ga K "_law_finer", ⟨("_law_finer", none), "_law_finer", "_law_finer", defArgs s__law_finer, defBody s__law_finer, defScope s__law_finer, [], []⟩⟩, ⟨fun K => He.ga K "_law_wide", ⟨("_law_wide", none), "_law_wide", "_law_wide", defArgs s__law_wide, defBody s__law_wide, defScope s__law_wide, [], []⟩⟩, ⟨fun K => He.ga K "_law_second", ⟨("_law_second", none), "_law_second", "_law_second", defArgs s__law_second, defBody s__law_second, defScope s__law_second, [], []⟩⟩, ⟨fun K => He.ga K "_law_right", ⟨("_law_right", none), "_law_right", "_law_right", defArgs s__law_right, defBody s__law_right, defScope s__law_right, [], []⟩⟩, ⟨fun K => He.ga K "law", ⟨("law", none), "law", "law", defArgs s_law, defBody s_law, defScope s_law, [], []⟩⟩]
def fal : List He.Fa := [.free "all", .free "bool", .free "int", .free "isinstance", .free "len", .free "list", .free "max", .free "min", .free "range", .free "repr", .free "sorted", .free "str", .free "sum", .free "tuple", .free "zip", .str "AXES" "abcd", .int "MOST_BITS" 120, .int "MOST_LETTERS" 240, .str "DIGITS" "0123456789", .int "MOST_OPEN" 8, .int "MOST_TIMES" 240, .glo "Weave", .cls "Weave", .mkr "Weave", .noat "Weave" "own_letters", .noat "Weave" "own_shape", .glo "is_int", .glo "require_index", .glo "is_stretch", .glo "is_box_of", .glo "require_box", .glo "require_key", .glo "product_of", .glo "cells_in", .glo "met_box", .glo "read_times", .glo "read_parts", .glo "count_letter", .glo "written", .glo "read_weave", .glo "require_weave", .glo "whole_box", .glo "half_of", .glo "bits_of", .glo "require_three", .glo "cells_met", .glo "rank", .glo "nth_key", .glo "_law_brook", .glo "_law_dip", .glo "_law_shape", .glo "_law_letters", .glo "_law_stretch", .glo "_law_box", .glo "_law_key", .glo "_law_cells", .glo "_law_within", .glo "_law_same", .glo "_law_listed", .glo "_law_finer", .glo "_law_wide", .glo "_law_second", .glo "_law_right", .glo "law"]
def exl : List (PySem.W.Frag → Bool) := [isB "Weave", propB "Weave" "letters", propB "Weave" "shape"]
abbrev Rw : PySem.W.OpenRow := PySem.W.OpenLaw.row PySem.Challenge.rw_wovenkeys_k20_ranks_and_nth_keys
abbrev hk : PySem.W.Hook := hookA 7 fal exl fnl
def ob (s : PySem.W.SharedT) : He.AlD := obsAG 7 fal exl fnl (HandSHeadRun.getT s)
theorem ob_eq (s : PySem.W.SharedT) : ob s = hk.obs s.abs := obsAG_eq (HandSHeadRun.getT_eq s)
def nm0 : List Str := ["WeaveError", "InvalidText", "TooLarge", "InvalidWeave", "InvalidBox", "InvalidKey", "InvalidIndex", "AXES", "MOST_BITS", "MOST_LETTERS", "is_int", "require_index", "is_stretch", "is_box_of", "require_box", "require_key", "product_of", "cells_in", "met_box", "DIGITS", "MOST_OPEN", "MOST_TIMES", "read_times", "read_parts", "count_letter", "written", "read_weave", "run_text", "Weave", "require_weave"]
def nm1 : List Str := ["whole_box", "half_of", "bits_of", "require_three", "cells_met", "rank", "nth_key", "_law_brook", "_law_dip", "_law_shape", "_law_letters", "_law_stretch", "_law_box", "_law_key", "_law_cells", "_law_within", "_law_same", "_law_listed", "_law_finer", "_law_wide", "_law_second", "_law_right"]
def nms : List Str := nm0 ++ nm1
theorem run (w : World) : HandSHeadRun.RunEq Rw (PySem.W.view Rw.prog [58]) hk ob 6000 nms w := by
  intro os
  kernel_rfl
end K20
namespace K20
open PySem PySem.Spec PyProof.Rows L2 WK
local macro_rules | `(tactic| walk_at "vc") => `(tactic| try simp only [tSeq, tAsg, tPar, tPar3, tIfS, tIf, tTest, tB, tOp, tUn, rU, rI0, rI, rEq, rNe, tVar, tC, tCB, tCons, tNil, tCal, gName, gSub, gTup, gCons, gNil, tRet, tRetN, tDrop, tLst, tTup, tNext, tBits, tChain, tAnd, tOr, tNot, tAndV, tOrV, tNotV, tSl, tPart, tNoPart, tBM, tBM0, tAug, tEx, tNever, rSetL, for_eq, lc_eq, yes_eq, scal_ii, scal_bb, scal_ss, scal_nn, scal_in, scal_ni, scal_sn, scal_ns, scal_bn, scal_nb, scal_is, scal_si, iRng1, iRng2, iRng3, iList, iTup, wipe,
  L2.start, isi_int, isi_str, isi_bl, isi_non, kit_ii, kit_ss, kit_bb, kit_ib, kit_is, kit_it, kit_il, kit_si, kit_sb, kit_st, kit_sl, kit_bi, kit_bs, kit_bt, kit_ni, kit_ns, kit_nt, kit_tt, kit_tl, kit_ti, kit_ts, kit_ll, kit_lt, kit_li, kit_ls, cxK, cxnK, iZipM, SqX, iZipT, iZipL, iEnum, iEnumT, tDisp, tPairs, tDGet, tLstRg, tTupRg, tRg1, tRg2, rSumT, rLenU, RZ.iZipA, tMk, tPrp, iStr, rMulS, rJn, rTupU, rListU, rIxS, rSlS, rAppend, tyv_s, tFld, sFld, rRep, rCat, rIxL, rIxT, rIntI, rIntB, rIsi, LenV, List.map_cons, List.map_nil, List.cons_append, List.nil_append, List.length_cons, List.length_nil, List.replicate, List.getElem?_cons_zero, List.getElem?_cons_succ, Option.some.injEq, exists_eq_left', V.int.injEq, V.str.injEq, List.cons.injEq, V.ref.injEq, V.bl.injEq,
  exists_and_left, exists_eq_left, exists_eq, and_true, true_and, and_assoc, List.set_cons_zero, List.set_cons_succ, Nat.reduceAdd, Nat.reduceSub, if_true, if_false, Bool.false_eq_true, reduceIte, Bool.not_true, Bool.not_false, decide_true, decide_false, reduceCtorEq, false_and, and_false, or_false, false_or, exists_false])
local macro_rules | `(tactic| walk_at "pl") => `(tactic| try simp only [pSeq, pAsg, pSet, pPar, pPar3, pIfS, pIf, pTest, pOp, pUn, pU, pII, pII0, pEq, pNe, pVar, pVarB, pC, pCB, pCons, pNil, pSCons, pSNil, pOwn, pVal, pList, pLst, pCal, pPrp, pgName, pgTupl, pgCons, pgNil, pRet, pRetN, pDrop, pTup, pNext, pBits, pChain, pAnd, pOr, pNot, pAndV, pOrV, pNotV, pSl, pPart, pNoPart, pBM, pBM0, pNever, pAppend, pExtend, pPut, pPop, pFrz, pFor, pWhile, pLc, pYes, pItL, pItT, pItS, pRng1, pRng2, pRng3, pZip, pEnum, pShr, pShl, pShl1, pIsN, pNotN, pIsB, pAddS, pMulS, pInS, pNotInS, pLtS, pIn, pIxL, pIxT, pIxS, pSlL, pSlT, pSlS, pCat, pRep, pCatA, pLen, pSum, pSumT, pMaxL, pMinL, pAll, pAny, pC2, pSorted, pListU, pTupU, pIntI, pIntB, pStrI, pSIndex, pSCount, pJoin, pIsTy, pIsCl, pDNew, pFld, pFldO, pSFld, pRepTK, pRev2, pEnumZ, pZip3, pBor, startI_eq, pEqD, pNeD, pRepr,
  startP_eq, isNon_non, isNon_int, isNon_tup, isNon_lst, isNon_str, isNon_bl, lenD_lst, lenD_tup, lenD_slst, lenD_str, dV_int, dV_bl, dV_str, dV_non, sl_val, sl_own, isObj_val, isObj_own, lst_tup, lst_lst, seq_lst, seq_tup, kind_t, kind_f, ty_str, ty_lst, frz_cons, frz_0o, frz_0v, frz_0n, wipeP_nil, wipeP_cons, lk_1, atI_0, atI_1, atI_2, atI_3, pSlA, okTy_int, isTy_non_int, isTy_bl_int, isTy_int_int, isTy_str_int, isTy_tup_int, isTy_lst_int, okTy_bool, isTy_non_bool, isTy_bl_bool, isTy_int_bool, isTy_str_bool, isTy_tup_bool, isTy_lst_bool, okTy_str, isTy_non_str, isTy_bl_str, isTy_int_str, isTy_str_str, isTy_tup_str, isTy_lst_str, okTy_tuple, isTy_non_tuple, isTy_bl_tuple, isTy_int_tuple, isTy_str_tuple, isTy_tup_tuple, isTy_lst_tuple, okTy_list, isTy_non_list, isTy_bl_list, isTy_int_list, isTy_str_list, isTy_tup_list, isTy_lst_list, isTy_dic_int, isTy_dic_bool, isTy_dic_str, isTy_dic_tuple, isTy_dic_list, plain_non, plain_bl, plain_int, plain_str, plain_tup, plain_lst, plain_dic, Int.cast_ofNat_Int, eq_self, exists_eq', Int.toNat_natCast, Int.reduceEq, Int.reduceLE, Int.reduceLT, List.length_map, List.length_range, List.length_set, dPr_eq, dBox_eq, dSh_eq, letters_eq, shape_eq, rqw_eq, prp_eq, sg_cps, sg_len,
  scal_ii, scal_bb, scal_ss, scal_nn, scal_in, scal_ni, scal_sn, scal_ns, scal_bn, scal_nb, scal_is, scal_si, List.map_cons, List.map_nil, List.cons_append, List.nil_append, List.length_cons, List.length_nil, List.replicate, List.getElem?_cons_zero, List.getElem?_cons_succ, Option.some.injEq, exists_eq_left', D.int.injEq, D.str.injEq, D.tup.injEq, D.lst.injEq, D.slst.injEq, D.bl.injEq, D.ins.injEq, Sl.val.injEq, Sl.own.injEq, V.int.injEq, V.str.injEq, V.bl.injEq, List.cons.injEq, List.all_cons, List.all_nil, List.contains, List.elem_cons, List.elem_nil, Nat.reduceBEq, Bool.or_false, Bool.false_or, Bool.and_true, Bool.true_or, Bool.or_true, Bool.and_self,
  exists_and_left, exists_eq_left, exists_eq, and_true, true_and, and_assoc, List.set_cons_zero, List.set_cons_succ, Nat.reduceAdd, Nat.reduceSub, Nat.reduceLeDiff, sizeLine_eq, if_true, if_false, Bool.false_eq_true, reduceIte, Bool.not_true, Bool.not_false, decide_true, decide_false, reduceCtorEq, false_and, and_false, or_false, false_or, exists_false])
section
variable {P : Program} {w : World} {K : PySem.W.Frag} {mg : Str → Option Value} {base : Heap}
/-! ### the brook: a list of three ints, drawn from -/
def sp__law_brook (K : PySem.W.Frag) : Sp := fun vs H Q _ => ∃ (s : Addr) (ns : List Int) (k : Int), vs = [.ref s, .int k] ∧ SqL K H s (ns.map V.int) ∧ ns.length ≤ 63 ∧ 0 ≤ k ∧ k ≤ 100 ∧ ∀ p o, H p = none → Br3 o 0 → Q (.ref p) (upd H p o)
theorem O__law_brook (T : Txt K mg) : Ok P w K mg base CX0 1 "_law_brook" ["_law_script", "_law_k"] (sp__law_brook K) :=
  Ok.mk0 T.f__law_brook T.g__law_brook sc__law_brook (by rintro vs H Q E ⟨s, ns, k, rfl, _⟩; rfl) (fun _ _ _ _ _ _ us hl => match us, hl with | [_, _], _ => rfl) (fun f cdv A outer s H vs Q E hr h => by
    obtain ⟨a, ns, k, rfl, hS, hl, k0, k1, q⟩ := h
    refine ⟨_, (pss_cons (ps_set (i := 2) sc__law_brook.nd rfl (.inl rfl) pe_int)
    (pss_cons (ps_if (pt_cmpR op_lt (pv 1) (pe_callB (lenU K) (by rfl) T.n_len (by decide +kernel) (pa_cons (pv 0) pa_nil)) (nomark _)) (pss_one (ps_set (i := 2) sc__law_brook.nd rfl (.inl rfl) (pe_ix (ixL K) (pv 0) (pv 1) (fun _ _ => rfl)))) pss_nil)
    (pss_one (ps_ret (pe_lst (pa_cons (pe_callB max2 (by rfl) T.n_max (by decide +kernel) (pa_cons pe_int (pa_cons (pe_op op_sub (pv 2) (pe_cpow (v := 1000000000000000000) (by decide +kernel))) pa_nil))) (pa_cons (pe_op op_add (pe_op op_add (pe_op op_mulX (pe_op op_mod (pe_callTy intI (by rfl) T.n_int (by decide +kernel) (pa_cons (pv 2) pa_nil)) (pe_op op_add (pe_cpow (v := 1000000000000000000000000000000000000000) (by decide +kernel)) pe_int)) pe_int) (pe_op op_mulX pe_int (pv 1))) pe_int) (pa_cons pe_int pa_nil)))))))), ?_⟩
    have key : ∀ c : Int, ∀ p, H p = none → Q (.ref p) (upd H p (.lst [.int (if c - 1000000000000000000 > 0 then c - 1000000000000000000 else 0), .int (c % (1000000000000000000000000000000000000000 + 37) * 149 + 70207 * k + 37), .int 0])) := fun c p np => by
      refine q p _ np ⟨_, _, _, rfl, by split <;> omega, ?_, ?_, by omega, by omega⟩
      · have := Int.emod_nonneg c (show (1000000000000000000000000000000000000000 + 37 : Int) ≠ 0 by decide)
        omega
      · have h1 := Int.emod_lt_of_pos c (show (0 : Int) < 1000000000000000000000000000000000000000 + 37 by decide)
        have h2 : (2 : Int) ^ 160 = 1461501637330902918203684832716283019655932542976 := by decide +kernel
        rw [h2]
        omega
    walk_at "vc"
    have c1 : ∀ c : Int, CMulX (c % (1000000000000000000000000000000000000000 + 37)) 149 := fun c =>
      mulx_of (a := 130) (b := 8) (Int.emod_nonneg c (by decide)) (Int.lt_trans (Int.emod_lt_of_pos c (by decide)) (by decide +kernel)) (by decide) (by decide) (by decide)
    have c2 : CMulX 70207 k := mulx_of (a := 20) (b := 8) (by decide) (by decide) k0 (by have : (2 : Int) ^ 8 = 256 := by decide
                                                                                         omega) (by decide)
    refine ⟨_, .inl ⟨_, hS, rfl⟩, if_d (fun e => ?_) (fun e => ?_)⟩
    · rw [List.length_map] at e
      have hk : k.toNat < ns.length := by omega
      have g : (ns.map V.int)[k.toNat]? = some (.int ns[k.toNat]) := by
        rw [List.getElem?_map, List.getElem?_eq_getElem hk]
        rfl
      exact ⟨_, hS, _, at_of (by omega) g, _, rfl, _, rfl, by decide, c1 _, c2, le_size (by decide), fun p np => key _ p np⟩
    · exact ⟨by decide, c1 _, c2, le_size (by decide), fun p np => key _ p np⟩)
/-- a draw: below m, from a brook that goes on -/
def sp1__law_dip : Sp := fun vs H Q _ => ∃ (a : Addr) (m : Int) (n : Nat), vs = [.ref a, .int m] ∧ Br a n H ∧ n ≤ 2 ^ 60 ∧ 1 ≤ m ∧ m ≤ 1000000000000000000000000000000 ∧ ∀ r o, 0 ≤ r → r < m → Br3 o (n + 1) → Q (.int r) (upd H a o)
theorem O1__law_dip (T : Txt K mg) : Ok P w K mg base CX0 1 "_law_dip" ["_law_brook_here", "_law_many"] sp1__law_dip :=
  Ok.mk0 T.f__law_dip T.g__law_dip sc__law_dip (by rintro vs H Q E ⟨s, ns, k, rfl, _⟩; rfl) (fun _ _ _ _ _ _ us hl => match us, hl with | [_, _], _ => rfl) (fun f cdv A outer s H vs Q E hr h => by
    obtain ⟨a, m, n, rfl, ⟨o, ha, x, y, z, rfl, x0, y0, y1, z0, z1⟩, hn, m0, m1, q⟩ := h
    refine ⟨_, (pss_cons (ps_if (pt_cmpR op_gt (pv 1) (pe_cpow (v := 1000000000000000000000000000000) (by decide +kernel)) (nomark _)) pss_never pss_nil)
    (pss_cons (ps_if (pt_cmpR op_gt (pe_ix (ixL K) (pv 0) pe_int (fun _ _ => rfl)) pe_int (nomark _)) (pss_cons (ps_set (i := 2) sc__law_dip.nd rfl (.inl rfl) (pe_op op_mod (pe_callTy intI (by rfl) T.n_int (by decide +kernel) (pa_cons (pe_ix (ixL K) (pv 0) pe_int (fun _ _ => rfl)) pa_nil)) (pv 1)))
    (pss_cons (ps_asg (pe_op op_fdivW (pe_ix (ixL K) (pv 0) pe_int (fun _ _ => rfl)) (pv 1)) (pg_sub (pv 0) pe_int set_list))
    (pss_one (ps_ret (pv 2))))) pss_nil)
    (pss_cons (ps_asg (pe_op op_add (pe_ix (ixL K) (pv 0) pe_int (fun _ _ => rfl)) pe_int) (pg_sub (pv 0) pe_int set_list))
    (pss_cons (ps_set (i := 4) sc__law_dip.nd rfl (.inl rfl) (pe_op op_mod (pe_callTy intI (by rfl) T.n_int (by decide +kernel) (pa_cons (pe_op op_powW (pe_op op_add (pe_ix (ixL K) (pv 0) pe_int (fun _ _ => rfl)) (pe_op op_mulX pe_int (pe_ix (ixL K) (pv 0) pe_int (fun _ _ => rfl)))) pe_int) pa_nil)) (pe_op op_add (pe_cpow (v := 100000000000000000000000000000000000000000000) (by decide +kernel)) pe_int)))
    (pss_cons (ps_set (i := 4) sc__law_dip.nd rfl (.inl rfl) (pe_op op_mod (pe_callTy intI (by rfl) T.n_int (by decide +kernel) (pa_cons (pe_op op_powW (pe_op op_add (pv 4) (pe_op op_mulX pe_int (pe_ix (ixL K) (pv 0) pe_int (fun _ _ => rfl)))) pe_int) pa_nil)) (pe_op op_add (pe_cpow (v := 1000000000000000000000000000000000000000000) (by decide +kernel)) pe_int)))
    (pss_one (ps_ret (pe_op op_mod (pe_callTy intI (by rfl) T.n_int (by decide +kernel) (pa_cons (pe_op op_fdivW (pv 4) pe_int) pa_nil)) (pv 1))))))))), ?_⟩
    walk_at "vc"
    refine if_d (fun e => absurd e (by omega)) (fun _ => ?_)
    refine ⟨_, sqL_of ha, _, rfl, _, rfl, if_d (fun e => ?_) (fun e => ?_)⟩
    · refine ⟨_, sqL_of ha, _, rfl, _, rfl, by omega, _, sqL_of ha, _, rfl, _, rfl, cdiv_of (k := 100) (by omega) (Int.lt_of_le_of_lt m1 (by decide +kernel)) (by decide), _, ha, _, rfl, ?_⟩
      exact q _ _ (Int.emod_nonneg _ (by omega)) (Int.emod_lt_of_pos _ (by omega)) ⟨_, _, _, rfl, Int.ediv_nonneg x0 (by omega), y0, y1, z0, by omega⟩
    · have zb : z + 1 < 2 ^ 61 := by
        have : (2 : Int) ^ 61 = 2305843009213693952 := by decide
        have : (2 : Nat) ^ 60 = 1152921504606846976 := by decide
        omega
      have p1 : 179424691 * (z + 1) < 2 ^ (28 + 61) := mul_lt_pow (by decide) (by decide) (by omega) zb
      have p2 : y + 179424691 * (z + 1) < 2 ^ 161 := by
        have : (2 : Int) ^ 161 = 2 * 2 ^ 160 := by decide
        have : (2 : Int) ^ (28 + 61) ≤ 2 ^ 160 := pow_le (by decide)
        omega
      have p3 : ∀ c : Int, 0 ≤ c % (100000000000000000000000000000000000000000000 + 97) ∧ c % (100000000000000000000000000000000000000000000 + 97) < 2 ^ 147 := fun c =>
        ⟨Int.emod_nonneg c (by decide), Int.lt_trans (Int.emod_lt_of_pos c (by decide)) (by decide +kernel)⟩
      have p4 : 122949829 * (z + 1) < 2 ^ (28 + 61) := mul_lt_pow (by decide) (by decide) (by omega) zb
      have p5 : ∀ c : Int, c % (100000000000000000000000000000000000000000000 + 97) + 122949829 * (z + 1) < 2 ^ 148 := fun c => by
        have h := (p3 c).2
        have : (2 : Int) ^ 148 = 2 * 2 ^ 147 := by decide
        have : (2 : Int) ^ (28 + 61) ≤ 2 ^ 147 := pow_le (by decide)
        omega
      refine ⟨_, sqL_of ha, _, rfl, _, rfl, _, ha, _, rfl, _, sqL_of upd_same, _, rfl, _, sqL_of upd_same, _, rfl, _, rfl, mulx_of (a := 28) (b := 61) (by decide) (by decide) (by omega) zb (by decide), _, rfl, powW_ok (n := 161) (k := 3) (nn_lt (by omega) p2) (by decide), by decide, ?_⟩
      refine ⟨_, sqL_of upd_same, _, rfl, _, rfl, mulx_of (a := 28) (b := 61) (by decide) (by decide) (by omega) zb (by decide), powW_ok (n := 148) (k := 3) (nn_lt (by have := (p3 ((y + 179424691 * (z + 1)) ^ (3 : Int).toNat)).1; omega) (p5 _)) (by decide), by decide, cdiv_of (k := 20) (by decide) (by decide) (by decide), by omega, ?_⟩
      exact q _ _ (Int.emod_nonneg _ (by omega)) (Int.emod_lt_of_pos _ (by omega)) ⟨_, _, _, rfl, x0, y0, y1, by omega, by omega⟩)
/-- a draw below any bound -/

def sp__law_dip : Sp := fun vs H Q _ => ∃ (a : Addr) (m : Int) (n : Nat), vs = [.ref a, .int m] ∧ Br a n H ∧ n ≤ 2 ^ 59 ∧ 1 ≤ m ∧ m < 2 ^ (1000 : Nat) ∧ ∀ r o, 0 ≤ r → r < m → Br3 o (n + 20) → Q (.int r) (upd H a o)
theorem O__law_dip (T : Txt K mg) : Ok P w K mg base CX0 2 "_law_dip" ["_law_brook_here", "_law_many"] sp__law_dip :=
  Ok.mk0 T.f__law_dip T.g__law_dip sc__law_dip (by rintro vs H Q E ⟨s, ns, k, rfl, _⟩; rfl) (fun _ _ _ _ _ _ us hl => match us, hl with | [_, _], _ => rfl) (fun f cdv A outer s H vs Q E hr h => by
    obtain ⟨a, m, n, rfl, ⟨o, ha, x, y, z, rfl, x0, y0, y1, z0, z1⟩, hn, m0, m1, q⟩ := h
    refine ⟨_, (pss_cons (ps_if (pt_cmpR op_gt (pv 1) (pe_cpow (v := 1000000000000000000000000000000) (by decide +kernel)) (nomark _)) (pss_cons (ps_set (i := 2) sc__law_dip.nd rfl (.inl rfl) pe_int)
    (pss_cons (ps_for PassesOwn.never rfl (pi_range1 (by rfl) T.n_range (pa_cons (pe_op op_add pe_int (pe_op op_fdivW (pe_bits (pv 1)) pe_int)) pa_nil)) (pg_name (i := 3) sc__law_dip.nd rfl (.inl rfl)) (pss_one (ps_set (i := 2) sc__law_dip.nd rfl (.inl rfl) (pe_op op_add (pe_op op_mulX (pv 2) (pe_cpow (v := 1000000000000000000000000000000) (by decide +kernel))) (cal (O1__law_dip T) hr (pa_cons (pv 0) (pa_cons (pe_cpow (v := 1000000000000000000000000000000) (by decide +kernel)) pa_nil)))))))
    (pss_one (ps_ret (pe_op op_mod (pe_callTy intI (by rfl) T.n_int (by decide +kernel) (pa_cons (pv 2) pa_nil)) (pv 1)))))) pss_nil)
    (pss_cons (ps_if (pt_cmpR op_gt (pe_ix (ixL K) (pv 0) pe_int (fun _ _ => rfl)) pe_int (nomark _)) (pss_cons (ps_set (i := 2) sc__law_dip.nd rfl (.inl rfl) (pe_op op_mod (pe_callTy intI (by rfl) T.n_int (by decide +kernel) (pa_cons (pe_ix (ixL K) (pv 0) pe_int (fun _ _ => rfl)) pa_nil)) (pv 1)))
    (pss_cons (ps_asg (pe_op op_fdivW (pe_ix (ixL K) (pv 0) pe_int (fun _ _ => rfl)) (pv 1)) (pg_sub (pv 0) pe_int set_list))
    (pss_one (ps_ret (pv 2))))) pss_nil)
    (pss_cons (ps_asg (pe_op op_add (pe_ix (ixL K) (pv 0) pe_int (fun _ _ => rfl)) pe_int) (pg_sub (pv 0) pe_int set_list))
    (pss_cons (ps_set (i := 4) sc__law_dip.nd rfl (.inl rfl) (pe_op op_mod (pe_callTy intI (by rfl) T.n_int (by decide +kernel) (pa_cons (pe_op op_powW (pe_op op_add (pe_ix (ixL K) (pv 0) pe_int (fun _ _ => rfl)) (pe_op op_mulX pe_int (pe_ix (ixL K) (pv 0) pe_int (fun _ _ => rfl)))) pe_int) pa_nil)) (pe_op op_add (pe_cpow (v := 100000000000000000000000000000000000000000000) (by decide +kernel)) pe_int)))
    (pss_cons (ps_set (i := 4) sc__law_dip.nd rfl (.inl rfl) (pe_op op_mod (pe_callTy intI (by rfl) T.n_int (by decide +kernel) (pa_cons (pe_op op_powW (pe_op op_add (pv 4) (pe_op op_mulX pe_int (pe_ix (ixL K) (pv 0) pe_int (fun _ _ => rfl)))) pe_int) pa_nil)) (pe_op op_add (pe_cpow (v := 1000000000000000000000000000000000000000000) (by decide +kernel)) pe_int)))
    (pss_one (ps_ret (pe_op op_mod (pe_callTy intI (by rfl) T.n_int (by decide +kernel) (pa_cons (pe_op op_fdivW (pv 4) pe_int) pa_nil)) (pv 1))))))))), ?_⟩
    walk_at "vc"
    have p60 : (2 : Nat) ^ 60 = 1152921504606846976 := by decide
    have p59 : (2 : Nat) ^ 59 = 576460752303423488 := by decide
    refine if_d (fun e => ?_) (fun e => ?_)
    · have hb : Builtin.Int.intBits m ≤ 1000 := PyProof.Rows.intBits_le (k := 1000) (nn_lt (by omega) m1)
      generalize Builtin.Int.intBits m = B at hb
      have eT : (1 + (B : Int) / 90).toNat = 1 + B / 90 := by omega
      refine ⟨cdiv_of (k := 10) (by decide) (by decide) (by decide), by omega, by omega, ?_⟩
      rw [eT]
      have hT : 1 + B / 90 ≤ 12 := by omega
      generalize 1 + B / 90 = T at hT
      refine loop_r0 (fun i σ' H' => ∃ (f : Int) (y3 : Option V) (o : HO), σ' = [some (.ref a), some (.int m), some (.int f), y3, none] ∧ 0 ≤ f ∧ f < 2 ^ (100 * i) ∧ H' = upd H a o ∧ Br3 o (n + i))
        ⟨0, none, .lst [.int x, .int y, .int z], rfl, by decide, by decide, ?_, x, y, z, rfl, x0, y0, y1, z0, by omega⟩ ?_ ?_
      · funext b
        by_cases hb2 : b = a
        · rw [hb2, upd_same, ha]
        · rw [upd_ne hb2]
      · rintro i σ' H' hi ⟨f, y3, o, rfl, f0, f1, rfl, hB⟩
        walk_at "vc"
        have f2 : f < 2 ^ 1200 := lt_pow f1 (by omega)
        refine ⟨mulx_of (a := 1200) (b := 100) f0 f2 (by decide) (by decide +kernel) (by decide), a, 1000000000000000000000000000000, n + i, rfl, ⟨o, upd_same, hB⟩, by omega, by decide, by decide, fun r o2 r0 r1 hB2 => ?_⟩
        refine ⟨_, rfl, by omega, ?_, o2, upd_upd, hB2⟩
        have e1 : (2 : Int) ^ (100 * (i + 1)) = 2 ^ (100 * i) * 2 ^ 100 := by rw [Nat.mul_add, Int.pow_add]
        have e2 : (2 : Int) ^ 100 = 1267650600228229401496703205376 := by decide +kernel
        rw [e1, e2]
        omega
      · rintro σ' H' ⟨f, y3, o, rfl, f0, f1, rfl, hB⟩
        walk_at "vc"
        exact ⟨by omega, q _ _ (Int.emod_nonneg _ (by omega)) (Int.emod_lt_of_pos _ (by omega)) (hB.mono (by omega))⟩
    · have m1 : m ≤ 1000000000000000000000000000000 := by omega
      have hn : n ≤ 2 ^ 60 := by omega
      have q1 : ∀ r o, 0 ≤ r → r < m → Br3 o (n + 1) → Q (.int r) (upd H a o) := fun r o r0 r1 hB => q r o r0 r1 (hB.mono (by omega))
      refine ⟨_, sqL_of ha, _, rfl, _, rfl, if_d (fun e => ?_) (fun e => ?_)⟩
      · refine ⟨_, sqL_of ha, _, rfl, _, rfl, by omega, _, sqL_of ha, _, rfl, _, rfl, cdiv_of (k := 100) (by omega) (Int.lt_of_le_of_lt m1 (by decide +kernel)) (by decide), _, ha, _, rfl, ?_⟩
        exact q1 _ _ (Int.emod_nonneg _ (by omega)) (Int.emod_lt_of_pos _ (by omega)) ⟨_, _, _, rfl, Int.ediv_nonneg x0 (by omega), y0, y1, z0, by omega⟩
      · have zb : z + 1 < 2 ^ 61 := by
          have : (2 : Int) ^ 61 = 2305843009213693952 := by decide
          have : (2 : Nat) ^ 60 = 1152921504606846976 := by decide
          omega
        have p1 : 179424691 * (z + 1) < 2 ^ (28 + 61) := mul_lt_pow (by decide) (by decide) (by omega) zb
        have p2 : y + 179424691 * (z + 1) < 2 ^ 161 := by
          have : (2 : Int) ^ 161 = 2 * 2 ^ 160 := by decide
          have : (2 : Int) ^ (28 + 61) ≤ 2 ^ 160 := pow_le (by decide)
          omega
        have p3 : ∀ c : Int, 0 ≤ c % (100000000000000000000000000000000000000000000 + 97) ∧ c % (100000000000000000000000000000000000000000000 + 97) < 2 ^ 147 := fun c =>
          ⟨Int.emod_nonneg c (by decide), Int.lt_trans (Int.emod_lt_of_pos c (by decide)) (by decide +kernel)⟩
        have p4 : 122949829 * (z + 1) < 2 ^ (28 + 61) := mul_lt_pow (by decide) (by decide) (by omega) zb
        have p5 : ∀ c : Int, c % (100000000000000000000000000000000000000000000 + 97) + 122949829 * (z + 1) < 2 ^ 148 := fun c => by
          have h := (p3 c).2
          have : (2 : Int) ^ 148 = 2 * 2 ^ 147 := by decide
          have : (2 : Int) ^ (28 + 61) ≤ 2 ^ 147 := pow_le (by decide)
          omega
        refine ⟨_, sqL_of ha, _, rfl, _, rfl, _, ha, _, rfl, _, sqL_of upd_same, _, rfl, _, sqL_of upd_same, _, rfl, _, rfl, mulx_of (a := 28) (b := 61) (by decide) (by decide) (by omega) zb (by decide), _, rfl, powW_ok (n := 161) (k := 3) (nn_lt (by omega) p2) (by decide), by decide, ?_⟩
        refine ⟨_, sqL_of upd_same, _, rfl, _, rfl, mulx_of (a := 28) (b := 61) (by decide) (by decide) (by omega) zb (by decide), powW_ok (n := 148) (k := 3) (nn_lt (by have := (p3 ((y + 179424691 * (z + 1)) ^ (3 : Int).toNat)).1; omega) (p5 _)) (by decide), by decide, cdiv_of (k := 20) (by decide) (by decide) (by decide), by omega, ?_⟩
        exact q1 _ _ (Int.emod_nonneg _ (by omega)) (Int.emod_lt_of_pos _ (by omega)) ⟨_, _, _, rfl, x0, y0, y1, by omega, by omega⟩)

theorem dip_do {a : Addr} {m : Int} {n : Nat} {H : Hp} {Q : VK} {E : XK} (hB : Br a n H) (hn : n ≤ 2 ^ 59) (m0 : 1 ≤ m) (m1 : m < 2 ^ (1000 : Nat)) (q : ∀ r o, 0 ≤ r → r < m → Br3 o (n + 20) → Q (.int r) (upd H a o)) : sp__law_dip [.ref a, .int m] H Q E :=
  ⟨a, m, n, rfl, hB, hn, m0, m1, q⟩

end
section
variable {P : Program} {w : World} {K : PySem.W.Frag} {mg : Str → Option Value} {base : Heap}
/-! ### texts of weaves: flat ones -/
def sp_read_times : Sp := fun vs H Q _ => ∃ (a ds c : List Nat) (t : Nat), vs = [.str (sg (a ++ ds ++ c)), .int (a.length : Int)] ∧ (a ++ ds ++ c).length ≤ 10000 ∧ DsOk t ds ∧ (∀ d, c[0]? = some d → ¬ IsDig d) ∧
  ∀ p, H p = none → Q (.ref p) (upd H p (.tup [.int (t : Int), .int ((a.length + ds.length : Nat) : Int)]))
theorem O_read_times (T : Txt K mg) : Ok P w K mg base CX0 1 "read_times" ["text", "at"] sp_read_times :=
  Ok.mk0 T.f_read_times T.g_read_times sc_read_times (by rintro vs H Q E ⟨_, _, _, _, rfl, _⟩; rfl) (fun _ _ _ _ _ _ us hl => match us, hl with | [_, _], _ => rfl) (fun f cdv A outer s H vs Q E hr h => by
    obtain ⟨a, ds, c, t, rfl, hl, hd, hc, q⟩ := h
    refine ⟨_, (pss_cons (ps_set (i := 2) sc_read_times.nd rfl (.inl rfl) (pv 1))
    (pss_cons (ps_while PassesOwn.never (PW.pt (pw_and (pt_cmpR op_lt (pv 2) (pe_callB (lenU K) (by rfl) T.n_len (by decide +kernel) (pa_cons (pv 0) pa_nil)) (nomark _)) (pw_and1 (pt_cmpR op_in_sign (pe_ix ix_str (pv 0) (pv 2) (fun _ _ => rfl)) (pe_gstr T.c_DIGITS) rfl)))) (pss_one (ps_set (i := 2) sc_read_times.nd rfl (.inl rfl) (pe_op op_add (pv 2) pe_int))))
    (pss_cons (ps_if (pt_cmpR op_eq (pv 2) (pv 1) (nomark _)) (pss_one (ps_ret (pe_tup (pa_cons pe_int (pa_cons (pv 1) pa_nil))))) pss_nil)
    (pss_cons (ps_if (PW.pt (pw_or (pt_cmpR op_eq (pe_ix ix_str (pv 0) (pv 1) (fun _ _ => rfl)) pe_str (nomark _)) (pw_or (pt_cmpR op_gt (pe_op op_sub (pv 2) (pv 1)) pe_int (nomark _)) (pw_or1 (pt_not (pt_chain op_le op_le pe_int (pe_callTy call_int_str (by rfl) T.n_int (by decide +kernel) (pa_cons (pe_slice sl_str (pv 0) (po_some (pv 1)) (po_some (pv 2))) pa_nil)) (pe_gint T.c_MOST_TIMES))))))) (pss_one ps_never) pss_nil)
    (pss_one (ps_ret (pe_tup (pa_cons (pe_callTy call_int_str (by rfl) T.n_int (by decide +kernel) (pa_cons (pe_slice sl_str (pv 0) (po_some (pv 1)) (po_some (pv 2))) pa_nil)) (pa_cons (pv 2) pa_nil))))))))), ?_⟩
    walk_at "vc"
    refine ⟨fun m σ' H' => ∃ j : Nat, j ≤ ds.length ∧ m = ds.length - j ∧ σ' = [some (.str (sg (a ++ ds ++ c))), some (.int (a.length : Int)), some (.int ((a.length + j : Nat) : Int))] ∧ H' = H, ⟨ds.length, 0, Nat.zero_le _, rfl, rfl, rfl⟩, ?_⟩
    rintro m σ' H' ⟨j, hj, rfl, rfl, rfl⟩
    walk_at "vc"
    have L : (a ++ ds ++ c).length = a.length + ds.length + c.length := by rw [List.length_append, List.length_append]
    have zl : (sg (a ++ ds ++ c)).length ≤ sizeLine := le_size (by rw [sg_len]; omega)
    refine ⟨zl, ?_⟩
    by_cases hje : j < ds.length
    · have g : (a ++ ds ++ c)[a.length + j]? = some ds[j] := by
        rw [List.append_assoc, List.getElem?_append_right (by omega), Nat.add_sub_cancel_left, List.getElem?_append_left hje, List.getElem?_eq_getElem hje]
      refine if_t (decide_eq_true (by rw [sg_len]; omega)) ⟨zl, _, at_nat rfl (by rw [sg_cps]; exact g), _, rfl, if_t (decide_eq_true ((dig_iff _).mpr (hd.dig _ (List.getElem_mem _)))) ⟨_, fun _ _ h => h, ds.length - (j + 1), by omega, j + 1, by omega, rfl, rfl, rfl⟩⟩
    · have ej : j = ds.length := by omega
      subst ej
      refine ite_t ?_ fun hc1 tl => ?_
      · refine if_d (fun e => ?_) (fun e => ?_)
        · have e0 : ds = [] := List.length_eq_zero_iff.mp (by omega)
          have e1 := hd.one e0
          subst e0 e1
          exact ⟨le_size (by decide), fun p np => q p np⟩
        · have hne : ds ≠ [] := fun z => e (by rw [z]; rfl)
          obtain ⟨n1, n2, n3, n4⟩ := hd.num hne
          have hp : 0 < ds.length := List.length_pos_iff.mpr hne
          have g : (a ++ ds ++ c)[a.length]? = some ds[0] := by
            rw [List.append_assoc, List.getElem?_append_right (by omega), Nat.sub_self, List.getElem?_append_left hp, List.getElem?_eq_getElem hp]
          have h48 : ds[0] ≠ 48 := fun z => n4 (by rw [List.getElem?_eq_getElem hp, z])
          have h3 := hd.len
          rw [cut_sg a ds c rfl rfl]
          have l6 : (sg ds).length ≤ 640 := by
            rw [sg_len]
            omega
          refine ⟨zl, _, at_nat rfl (by rw [sg_cps]; exact g), if_d (fun z => ?_) fun _ => if_d (fun z => by omega) fun _ => ⟨zl, _, n1, l6, if_d (fun _ => if_nd (fun z => by omega) fun _ => ⟨zl, _, n1, l6, le_size (by decide), fun p np => q p np⟩) (fun z => by omega)⟩⟩
          exact h48 (sign_eq.mp (z.trans (show Str.ofString "0" = ⟨#[48]⟩ by decide +kernel)))
      · rw [decide_eq_true_eq, sg_len] at hc1
        have hcl : 0 < c.length := by omega
        have g : (a ++ ds ++ c)[a.length + ds.length]? = some c[0] := by
          rw [List.getElem?_append_right (by rw [List.length_append]; omega), List.length_append, Nat.sub_self, List.getElem?_eq_getElem hcl]
        refine ⟨zl, _, at_nat rfl (by rw [sg_cps]; exact g), _, rfl, if_f (decide_eq_false fun z => ?_) tl⟩
        exact hc _ (List.getElem?_eq_getElem hcl) ((dig_iff _).mp z))
def sp_read_parts : Sp := fun vs H Q _ => ∃ its : List Item, vs = [.str (sg (fx its)), .int 0, .int 0] ∧ (∀ it ∈ its, ItOk it) ∧ (fx its).length ≤ 9000 ∧
  ∀ p tp xs H', Same H H' → H' p = some (.tup [.ref tp, .int ((fx its).length : Int)]) → H' tp = some (.tup xs) → PartsAt H' xs its → Q (.ref p) H'
theorem O_read_parts (T : Txt K mg) : Ok P w K mg base CX0 2 "read_parts" ["text", "at", "depth"] sp_read_parts :=
  Ok.mk0 T.f_read_parts T.g_read_parts sc_read_parts (by rintro vs H Q E ⟨_, rfl, _⟩; rfl) (fun _ _ _ _ _ _ us hl => match us, hl with | [_, _, _], _ => rfl) (fun f cdv A outer s H vs Q E hr h => by
    obtain ⟨its, rfl, hok, hl, q⟩ := h
    refine ⟨_, (pss_cons (ps_set (i := 3) sc_read_parts.nd rfl (.inl rfl) (pe_lst pa_nil))
    (pss_cons (ps_while PassesOwn.never (PW.pt (pw_and (pt_cmpR op_lt (pv 1) (pe_callB (lenU K) (by rfl) T.n_len (by decide +kernel) (pa_cons (pv 0) pa_nil)) (nomark _)) (pw_and1 (pt_cmpR op_ne (pe_ix ix_str (pv 0) (pv 1) (fun _ _ => rfl)) pe_str (nomark _))))) (pss_cons (ps_set (i := 4) sc_read_parts.nd rfl (.inl rfl) (pe_ix ix_str (pv 0) (pv 1) (fun _ _ => rfl)))
    (pss_cons (ps_if (pt_cmpR op_eq (pv 4) pe_str (nomark _)) pss_never (pss_one (ps_if (pt_cmpR op_notIn_sign (pv 4) (pe_gstr T.c_AXES) rfl) (pss_one ps_never) pss_nil)))
    (pss_cons (ps_asg (cal (O_read_times T) hr (pa_cons (pv 0) (pa_cons (pe_op op_add (pv 1) pe_int) pa_nil))) (pgTup K (n := 2) (pgs_cons (pg_name (i := 6) sc_read_parts.nd rfl (.inl rfl)) (pgs_cons (pg_name (i := 1) sc_read_parts.nd rfl (.inl rfl)) pgs_nil))))
    (pss_one (ps_expr (bmK K PySem.F.plainAttrs_list PySem.F.slot_list_append PySem.F.type_list_append mt_append (pv 3) (pa_cons (pe_tup (pa_cons (pv 4) (pa_cons (pv 6) pa_nil))) pa_nil))))))))
    (pss_one (ps_ret (pe_tup (pa_cons (pe_callTy (tupleOf K) (by rfl) T.n_tuple (by decide +kernel) (pa_cons (pv 3) pa_nil)) (pa_cons (pv 1) pa_nil))))))), ?_⟩
    walk_at "vc"
    refine ⟨le_size (by decide), fun D nD => ?_⟩
    refine ⟨fun m σ' H' => ∃ (i : Nat) (xs : List V) (y4 y5 y6 : Option V), i ≤ its.length ∧ m = its.length - i ∧ σ' = [some (.str (sg (fx its))), some (.int ((fx (its.take i)).length : Int)), some (.int 0), some (.ref D), y4, y5, y6] ∧ Same H H' ∧ H' D = some (.lst xs) ∧ PartsAt H' xs (its.take i),
      ⟨its.length, 0, [], none, none, none, Nat.zero_le _, rfl, rfl, same_new nD, upd_same, rfl, fun j x it hx => by cases hx⟩, ?_⟩
    rintro m σ' H' ⟨i, xs, y4, y5, y6, hi, rfl, rfl, hs, hD, hp⟩
    walk_at "vc"
    have zl : (sg (fx its)).length ≤ sizeLine := le_size (by rw [sg_len]; omega)
    refine ⟨zl, ?_⟩
    have ne1 : ∀ c d : Nat, c ≠ d → ¬ ((⟨#[c]⟩ : Str) = ⟨#[d]⟩) := fun c d h z => h (sign_eq.mp z)
    have eP : Str.ofString ")" = ⟨#[41]⟩ := by decide +kernel
    have eO : Str.ofString "(" = ⟨#[40]⟩ := by decide +kernel
    rw [eP]
    by_cases hie : i < its.length
    · have e0 := fx_take its i hie
      obtain ⟨c1, c2, hds⟩ := hok _ (List.getElem_mem hie)
      have g : (fx its)[(fx (its.take i)).length]? = some its[i].1 := by
        rw [e0, List.getElem?_append_right (Nat.le_refl _), Nat.sub_self]
        rfl
      have hlt := (List.getElem?_eq_some_iff.mp g).1
      have g2 := at_nat (z := ((fx (its.take i)).length : Int)) rfl (show (sg (fx its)).cps.toList[(fx (its.take i)).length]? = _ by rw [sg_cps]; exact g)
      rw [eO]
      refine if_t (decide_eq_true (by rw [sg_len]; omega)) ⟨zl, _, g2, if_nd (fun _ => ⟨_, fun _ _ h => h, zl, _, g2, if_d (fun z => ne1 _ _ (by omega) z) fun _ => ⟨_, rfl, if_nd (fun z => z ((abcd_iff _).mpr ⟨c1, c2⟩)) fun _ => ?_⟩⟩) (fun z => (ne1 _ _ (by omega) z).elim)⟩
      have eA : fx its = (fx (its.take i) ++ [its[i].1]) ++ its[i].2.2 ++ fx (its.drop (i + 1)) := by
        rw [e0]
        simp
      have eL : ((fx (its.take i)).length : Int) + 1 = ((fx (its.take i) ++ [its[i].1]).length : Int) := by
        rw [List.length_append]
        rfl
      refine ⟨_, its[i].2.2, fx (its.drop (i + 1)), its[i].2.1, by rw [← eA, ← eL], by rw [← eA]; omega, hds, fx_head _ fun it h => hok it (List.mem_of_mem_drop h), fun p np => ?_⟩
      walk_at "vc"
      have hx : xs.length = i := by
        rw [hp.1, List.length_take]
        omega
      have hge := fx_ge its
      refine ⟨_, sqT_of upd_same, rfl, _, _, rfl, _, _, rfl, rfl, tyv_l (upd_new np hD), le_size (by decide), fun p2 np2 => ⟨xs, upd_new np2 (upd_new np hD), lt_size (by omega), its.length - (i + 1), by omega, i + 1, by omega, rfl, ?_, ((hs.new np).new np2).own nD, _, upd_same, ?_⟩⟩
      · rw [fx_step its i hie, List.length_append]
        rfl
      · rw [List.take_succ_eq_append_getElem hie]
        exact PartsAt.put (PartsAt.snoc ((hp.same (same_new np)).same (same_new np2)) upd_same) (upd_new np2 (upd_new np hD))
    · have e1 : i = its.length := by omega
      subst e1
      rw [List.take_length]
      refine if_f (decide_eq_false (by rw [sg_len]; omega)) ⟨_, sqL_of hD, fun l nl => ⟨le_size (by decide), fun p np => ?_⟩⟩
      rw [List.take_length] at hp
      refine q p l xs _ ((hs.new nl).new np) upd_same (upd_new np upd_same) ?_
      exact (hp.same (same_new nl)).same (same_new np))
def sp_count_letter (K : PySem.W.Frag) : Sp := fun vs H Q _ => ∃ (its : List Item) (tp : Addr) (xs : List V) (c : Nat), vs = [.ref tp, .str ⟨#[c]⟩] ∧ SqT K H tp xs ∧ PartsAt H xs its ∧ Q (.int ((lx its).count c : Nat)) H
theorem O_count_letter (T : Txt K mg) : Ok P w K mg base CX0 1 "count_letter" ["parts", "letter"] (sp_count_letter K) :=
  Ok.mk0 T.f_count_letter T.g_count_letter sc_count_letter (by rintro vs H Q E ⟨_, _, _, _, rfl, _⟩; rfl) (fun _ _ _ _ _ _ us hl => match us, hl with | [_, _], _ => rfl) (fun f cdv A outer s H vs Q E hr h => by
    obtain ⟨its, tp, xs, c, rfl, ht, hp, q⟩ := h
    refine ⟨_, (pss_cons (ps_set (i := 2) sc_count_letter.nd rfl (.inl rfl) pe_int)
    (pss_cons (ps_for PassesOwn.never rfl (piT K (pv 0)) (pgTup K (n := 2) (pgs_cons (pg_name (i := 3) sc_count_letter.nd rfl (.inl rfl)) (pgs_cons (pg_name (i := 4) sc_count_letter.nd rfl (.inl rfl)) pgs_nil))) (pss_one (ps_if (pt_val (pe_callB (isi K) (by rfl) T.n_isinstance (by decide +kernel) (pa_cons (pv 3) (pa_cons (pe_bltn (v := .ty "tuple") rfl T.n_tuple (by decide +kernel) rfl) pa_nil)))) pss_never (pss_one (ps_if (pt_cmpR op_eq (pv 3) (pv 1) (nomark _)) (pss_one (ps_set (i := 2) sc_count_letter.nd rfl (.inl rfl) (pe_op op_add (pv 2) (pv 4)))) pss_nil)))))
    (pss_one (ps_ret (pv 2))))), ?_⟩
    walk_at "vc"
    refine ⟨⟨_, ht⟩, ?_⟩
    refine loop_t (xs := xs) (fun i σ' H' => ∃ y3 y4 : Option V, σ' = [some (.ref tp), some (.str ⟨#[c]⟩), some (.int ((lx (its.take i)).count c : Nat)), y3, y4] ∧ H' = H) ⟨none, none, rfl, rfl⟩ (by rintro i σ' H' _ ⟨_, _, _, rfl⟩; exact ht) ?_ ?_
    · rintro i x σ' H' hx ⟨y3, y4, rfl, rfl⟩
      have hil := (List.getElem?_eq_some_iff.mp hx).1
      rw [hp.1] at hil
      obtain ⟨a, rfl, ha⟩ := hp.2 i x _ hx (List.getElem?_eq_getElem hil)
      walk_at "vc"
      refine ⟨_, sqT_of ha, rfl, _, _, rfl, _, _, rfl, rfl, ?_⟩
      walk_at "vc"
      rw [lx_take its i hil, List.count_append, List.count_replicate]
      refine if_d (fun e => ⟨?_, _, rfl⟩) (fun e => ⟨?_, _, rfl⟩)
      · rw [sign_eq.mp e, if_pos (beq_self_eq_true _)]
        exact (Int.natCast_add _ _).symm
      · rw [if_neg fun z => e (by rw [beq_iff_eq.mp z]; rfl)]
        rfl
    · rintro σ' H' ⟨y3, y4, rfl, rfl⟩
      walk_at "vc"
      rw [hp.1, List.take_length]
      exact q)
def sp_written (K : PySem.W.Frag) : Sp := fun vs H Q _ => ∃ (its : List Item) (tp : Addr) (xs : List V), vs = [.ref tp] ∧ SqT K H tp xs ∧ PartsAt H xs its ∧ (∀ it ∈ its, ItOk it) ∧ (lx its).length ≤ 9000 ∧ ∀ H', Same H H' → Q (.str (sg (lx its))) H'
theorem O_written (T : Txt K mg) : Ok P w K mg base CX0 1 "written" ["parts"] (sp_written K) :=
  Ok.mk0 T.f_written T.g_written sc_written (by rintro vs H Q E ⟨_, _, _, rfl, _⟩; rfl) (fun _ _ _ _ _ _ us hl => match us, hl with | [_], _ => rfl) (fun f cdv A outer s H vs Q E hr h => by
    obtain ⟨its, tp, xs, rfl, ht, hp, hok, hl, q⟩ := h
    refine ⟨_, (pss_one (ps_ret (bmK K PySem.F.plainAttrs_str PySem.F.slot_str_join PySem.F.type_str_join (mtJoin K) pe_str (pa_cons (pe_lc (own := [("content", 1), ("times", 2)]) (g := (gTup K 2 (gCons (gName 1) (gCons (gName 2) gNil)))) rfl sc_written.nd (piT K (pv 0)) (blkOk_by (N := N_written) (sc := defScope s_written) (by decide +kernel)) (fun _ _ _ _ _ => (pgTup K (n := 2) (pgs_cons (pg_name (i := 1) sc_written.nd rfl (.inl rfl)) (pgs_cons (pg_name (i := 2) sc_written.nd rfl (.inl rfl)) pgs_nil)))) (fun _ _ _ _ _ => pts_nil) (fun _ _ _ _ _ => (pe_op op_mul_str (pe_ifExp (pt_val (pe_callB (isi K) (by rfl) T.n_isinstance (by decide +kernel) (pa_cons (pv 1) (pa_cons (pe_bltn (v := .ty "tuple") rfl T.n_tuple (by decide +kernel) rfl) pa_nil)))) pe_dead (pv 1)) (pv 2)))) pa_nil)))), ?_⟩
    walk_at "vc"
    refine ⟨⟨_, ht⟩, ?_⟩
    refine comp_t (xs := xs) (fun D i H' => H' = upd H D (.lst ((its.take i).map fun it => V.str (sg (List.replicate it.2.1 it.1))))) (fun D nD => rfl) (fun D i H' nD _ e => by rw [e]; exact (same_new nD).sqT ht) ?_ ?_
    · rintro D i x H' nD hx rfl
      have hil := (List.getElem?_eq_some_iff.mp hx).1
      rw [hp.1] at hil
      obtain ⟨a, rfl, ha⟩ := hp.2 i x _ hx (List.getElem?_eq_getElem hil)
      have ht240 := (hok _ (List.getElem_mem hil)).2.2.most
      walk_at "vc"
      refine ⟨_, sqT_of (upd_new nD ha), rfl, _, _, rfl, _, _, rfl, rfl, ?_⟩
      walk_at "vc"
      refine ⟨mul_sign_ok (by omega), _, upd_same, ?_, ?_⟩
      · rw [List.length_map, List.length_take]
        have := lx_ge its hok
        exact lt_size (by omega)
      · rw [upd_upd, List.take_succ_eq_append_getElem hil, List.map_append]
        have e := mul_sign (c := its[i].1) (n := its[i].2.1) ht240.1
        rw [show sg [its[i].1] = ⟨#[its[i].1]⟩ from rfl, e]
        try rfl
    · rintro D H' nD rfl
      walk_at "vc"
      rw [hp.1, List.take_length]
      refine ⟨its.map fun it => sg (List.replicate it.2.1 it.1), sqL_of (by rw [upd_same, List.map_map]; rfl), ?_, ?_⟩
      · rw [List.map_map]
        have e : (its.map ((fun x : Str => x.length) ∘ fun it : Item => sg (List.replicate it.2.1 it.1))).sum = (lx its).length := by
          unfold lx
          rw [List.length_flatMap]
          congr 1
        rw [e]
        show _ + _ * 0 ≤ _
        omega
      · have e : Txt.join (Str.ofString "") (its.map fun it : Item => sg (List.replicate it.2.1 it.1)) = sg (lx its) := by
          have := glue_sg (its.map fun it : Item => List.replicate it.2.1 it.1)
          rw [List.map_map] at this
          exact this.trans (by rw [lx, List.flatMap_def])
        rw [e]
        exact q _ (same_new nD))

end
section
variable {P : Program} {w : World} {K : PySem.W.Frag} {mg : Str → Option Value} {base : Heap}
def sp_read_weave : Sp := fun vs H Q _ => ∃ (its : List Item) (n : Nat), vs = [.str (sg (fx its))] ∧ (∀ it ∈ its, ItOk it) ∧ (fx its).length ≤ 9000 ∧ WOk (lx its) n ∧ ∀ H', Same H H' → Q (.str (sg (lx its))) H'
theorem O_read_weave (T : Txt K mg) : Ok P w K mg base CX0 3 "read_weave" ["text"] sp_read_weave :=
  Ok.mk0 T.f_read_weave T.g_read_weave sc_read_weave (by rintro vs H Q E ⟨_, _, rfl, _⟩; rfl) (fun _ _ _ _ _ _ us hl => match us, hl with | [_], _ => rfl) (fun f cdv A outer s H vs Q E hr h => by
    obtain ⟨its, n, rfl, hok, hl, hW, q⟩ := h
    refine ⟨_, (pss_cons (ps_if (pt_not (pt_val (pe_callB (isi K) (by rfl) T.n_isinstance (by decide +kernel) (pa_cons (pv 0) (pa_cons (pe_bltn (v := .ty "str") rfl T.n_str (by decide +kernel) rfl) pa_nil))))) (pss_one ps_never) pss_nil)
    (pss_cons (ps_asg (cal (O_read_parts T) hr (pa_cons (pv 0) (pa_cons pe_int (pa_cons pe_int pa_nil)))) (pgTup K (n := 2) (pgs_cons (pg_name (i := 1) sc_read_weave.nd rfl (.inr rfl)) (pgs_cons (pg_name (i := 2) sc_read_weave.nd rfl (.inl rfl)) pgs_nil))))
    (pss_cons (ps_if (pt_cmpR op_lt (pv 2) (pe_callB (lenU K) (by rfl) T.n_len (by decide +kernel) (pa_cons (pv 0) pa_nil)) (nomark _)) (pss_one ps_never) pss_nil)
    (pss_cons (ps_setLc (i := 3) (own := [("letter", 4)]) (g := (gName 4)) rfl sc_read_weave.nd rfl rfl (sw_true rfl rfl rfl (by decide +kernel)) (pi_str (pe_gstr T.c_AXES)) (blkOk_by (N := N_read_weave) (sc := defScope s_read_weave) (by decide +kernel)) (fun _ _ _ _ _ => (pg_name (i := 4) sc_read_weave.nd rfl (.inl rfl))) (fun _ _ _ _ _ => pts_nil) (fun _ _ _ _ _ => (cal (O_count_letter T) hr (pa_cons (pv 1) (pa_cons (pv 4) pa_nil)))))
    (pss_cons (ps_while PassesOwn.never (PW.pt (pw_and (pt_cmpR (neD K hr) (pv 3) (pe_lst pa_nil) (nomark _)) (pw_and1 (pt_cmpR op_eq (pe_ix (ixL K) (pv 3) (pe_un un_neg pe_int) (fun _ _ => rfl)) pe_int (nomark _))))) (pss_one (ps_set (i := 3) sc_read_weave.nd rfl (.inl rfl) (pe_slice (slL K) (pv 3) po_none (po_some (pe_un un_neg pe_int))))))
    (pss_cons (ps_if (PW.pt (pw_or (pt_cmpR (eqD K hr) (pv 3) (pe_lst pa_nil) (nomark _)) (pw_or1 (pt_cmpR (inSeq K) pe_int (pv 3) rfl)))) (pss_one ps_never) pss_nil)
    (pss_cons (ps_if (pt_cmpR op_gt (pe_callB (maxL K) (by rfl) T.n_max (by decide +kernel) (pa_cons (pv 3) pa_nil)) (pe_gint T.c_MOST_BITS) (nomark _)) (pss_one ps_never) pss_nil)
    (pss_cons (ps_if (pt_cmpR op_gt (pe_callB (sumL K) (by rfl) T.n_sum (by decide +kernel) (pa_cons (pv 3) pa_nil)) (pe_gint T.c_MOST_LETTERS) (nomark _)) (pss_one ps_never) pss_nil)
    (pss_one (ps_ret (cal (O_written T) hr (pa_cons (pv 1) pa_nil)))))))))))), ?_⟩
    walk_at "vc"
    refine ⟨its, rfl, hok, hl, fun p tp xs H1 hs hp htp hat => ?_⟩
    walk_at "vc"
    refine ⟨_, sqT_of hp, rfl, _, _, rfl, _, _, rfl, rfl, le_size (by rw [sg_len]; omega), _, rfl, if_d (fun z => by rw [sg_len] at z; omega) fun _ => ?_⟩
    refine comp_w walk_str (fun D i H' => H' = upd H1 D (.lst ((cnts (lx its) i).map V.int))) (fun D nD => rfl) (fun _ _ _ _ _ _ => True.intro) ?_ ?_
    · rintro D i x H' H2 nD hi rfl ⟨rfl, c, hc, rfl⟩
      have ec : c = 97 + i := abcd_at hc
      subst ec
      walk_at "vc"
      refine ⟨its, tp, xs, _, rfl, (same_new nD).sqT (sqT_of htp), hat.same (same_new nD), ?_⟩
      refine ⟨_, upd_same, ?_, ?_⟩
      · rw [List.length_map]
        unfold cnts
        rw [List.length_map, List.length_range]
        have : i < 4 := hi
        exact lt_size (by omega)
      · rw [upd_upd]
        unfold cnts
        rw [List.range_succ, List.map_append, List.map_append]
        rfl
    · rintro D H' nD rfl
      refine ⟨fun m σ' H' => ∃ (k : Nat) (D' : Addr), n ≤ k ∧ k ≤ 4 ∧ m = k ∧ σ' = [some (.str (sg (fx its))), some (.ref tp), some (.int ((fx its).length : Int)), some (.ref D'), none] ∧ Same H1 H' ∧ H' D' = some (.lst ((cnts (lx its) k).map V.int)), ⟨4, 4, D, hW.n4, Nat.le_refl _, rfl, rfl, same_new nD, upd_same⟩, ?_⟩
      rintro m σ' H2 ⟨k, D', hk1, hk4, rfl, rfl, hs2, hD'⟩
      have hlen : ∀ j, (cnts (lx its) j).length = j := fun j => by
        unfold cnts
        rw [List.length_map, List.length_range]
      have m1 : 1 ≤ m := Nat.le_trans hW.n1 hk1
      walk_at "vc"
      refine ⟨Nat.zero_le _, fun p2 np2 => ?_⟩
      refine neE_do (sqL_of (upd_new np2 hD')) upd_same (by rw [hlen]; omega) ⟨true, rfl, if_t rfl ?_⟩
      have hs3 := hs2.new (o := .lst []) np2
      have hD3 := upd_new (o := .lst []) np2 hD'
      generalize upd H2 p2 (.lst []) = H3 at *
      have hat1 : atI ((cnts (lx its) m).map V.int) (-1) = some (V.int ((lx its).count (97 + (m - 1)) : Nat)) := at_last (by rw [hlen]; omega) (by rw [hlen, cnts_at (by omega)])
      refine ⟨_, sqL_of hD3, _, hat1, rfl, if_d (fun e => ?_) (fun e => ?_)⟩
      · have e' : (lx its).count (97 + (m - 1)) = 0 := by
          have := V.int.inj e
          omega
        have hnm : n < m := by
          rcases Nat.lt_or_ge n m with h | h
          · exact h
          · have := hW.lo (m - 1) (by omega)
            omega
        refine ⟨_, fun _ _ h => h, ?_⟩
        refine ⟨D', _, rfl, sqL_of hD3, fun p3 np3 => ?_⟩
        refine ⟨m - 1, by omega, m - 1, by omega, by omega, rfl, p3, rfl, hs3.new np3, ?_⟩
        rw [upd_same, cnts_cut m1]
      · have hnm : m = n := by
          rcases Nat.lt_or_ge n m with h | h
          · have := hW.no (m - 1) (by omega) (by omega)
            exact absurd (by rw [this]; rfl) e
          · omega
        subst hnm
        refine ⟨Nat.zero_le _, fun p3 np3 => ?_⟩
        refine eqE_do (sqL_of (upd_new np3 hD3)) upd_same (by rw [hlen]; omega) ⟨false, rfl, if_f rfl ?_⟩
        have hs4 := hs3.new (o := .lst []) np3
        have hD4 := upd_new (o := .lst []) np3 hD3
        generalize upd H3 p3 (.lst []) = H4 at *
        refine ⟨D', _, rfl, .inl (sqL_of hD4), rfl, flat_ints _, false, ?_, if_f rfl ?_⟩
        · have : inV (V.int 0) ((cnts (lx its) m).map V.int) = false := by
            unfold inV
            rw [List.any_eq_false]
            intro x hx
            obtain ⟨i, hi, rfl⟩ := List.mem_map.mp hx
            obtain ⟨k, hk, rfl⟩ := cnts_mem hi
            have := hW.lo k hk
            show ¬ (((lx its).count (97 + k) : Int) == 0) = true
            rw [beq_iff_eq]
            omega
          rw [this]
          rfl
        · refine ⟨D', cnts (lx its) m, rfl, sqL_of hD4, by rw [hlen]; omega, fun M hM _ => ⟨M, rfl, if_d (fun z => ?_) fun _ => ⟨D', cnts (lx its) m, rfl, sqL_of hD4, _, rfl, if_d (fun z => ?_) fun _ => ?_⟩⟩⟩
          · obtain ⟨k, hk, rfl⟩ := cnts_mem hM
            have := hW.hi k hk
            omega
          · rw [cnts_sum] at z
            have h1 := List.length_filter_le (fun c => decide (97 ≤ c ∧ c < 97 + m)) (lx its)
            have h2 := hW.le
            omega
          · exact ⟨its, tp, xs, rfl, hs4.sqT (sqT_of htp), hat.same hs4, hok, Nat.le_trans hW.le (by decide), fun H' hH' => q _ (hs.trans (hs4.trans hH'))⟩)
/-! ### the class -/
def sp_Weave___init__ (K : PySem.W.Frag) : Sp := fun vs H Q _ => ∃ (x dx : Addr) (its : List Item) (n : Nat), vs = [.ref x, .str (sg (fx its))] ∧ H x = some (.ins (He.ga K "Weave") dx []) ∧ (∀ it ∈ its, ItOk it) ∧ (fx its).length ≤ 9000 ∧ WOk (lx its) n ∧
  ∀ H', But x H H' → shp K H' x (lx its) n → Q .non H'
theorem O_Weave___init__ (T : Txt K mg) : OkM P w K mg base CX0 4 (He.ma K (He.ga K "Weave") "__init__") ["self", "text"] (sp_Weave___init__ K) :=
  OkM.mk0 T.f_Weave___init__ sc_Weave___init__ (by rintro vs H Q E ⟨_, _, _, _, rfl, _⟩; rfl) (fun _ _ _ _ _ _ us hl => match us, hl with | [_, _], _ => rfl) (fun f cdv A outer s H vs Q E hr h => by
    obtain ⟨x, dx, its, n, rfl, hx, hok, hl, hW, q⟩ := h
    refine ⟨_, (pss_cons (sfldK K (pv 0) (cal (O_read_weave T) hr (pa_cons (pv 1) pa_nil)))
    (pss_one (sfldK K (pv 0) (pe_callTy (tupleOf K) (by rfl) T.n_tuple (by decide +kernel) (pa_cons (pe_lc (own := [("letter", 2)]) (g := (gName 2)) rfl sc_Weave___init__.nd (pi_str (pe_gstr T.c_AXES)) (blkOk_by (N := N_Weave___init__) (sc := defScope s_Weave___init__) (by decide +kernel)) (fun _ _ _ _ _ => (pg_name (i := 2) sc_Weave___init__.nd rfl (.inl rfl))) (fun _ _ _ _ _ => (pts_one (pt_cmpR op_in_sign (pv 2) (fldK K (pv 0)) rfl))) (fun _ _ _ _ _ => (bmK K PySem.F.plainAttrs_str PySem.F.slot_str_count PySem.F.type_str_count mt_count (fldK K (pv 0)) (pa_cons (pv 2) pa_nil)))) pa_nil))))), ?_⟩
    walk_at "vc"
    refine ⟨its, n, rfl, hok, hl, hW, fun H1 hs => ?_⟩
    have hx1 := hs _ _ hx
    refine ⟨_, dx, _, hx1, T.k_Weave, T.a_Weave_own_letters, by decide, ?_⟩
    show CompL _ _ _ _ _ _ (upd H1 x (.ins (He.ga K "Weave") dx [("own_letters", .str (sg (lx its)))])) _
    have h2 : upd H1 x (.ins (He.ga K "Weave") dx [("own_letters", .str (sg (lx its)))]) x = _ := upd_same
    have b2 : But x H (upd H1 x (.ins (He.ga K "Weave") dx [("own_letters", .str (sg (lx its)))])) := (But.of_same hs).at
    generalize upd H1 x (.ins (He.ga K "Weave") dx [("own_letters", .str (sg (lx its)))]) = H2 at *
    refine comp_w walk_str (fun D i H' => H' = upd H2 D (.lst ((cnts (lx its) (min i n)).map V.int))) (fun D nD => by rw [Nat.zero_min]; rfl) (fun _ _ _ _ _ _ => True.intro) ?_ ?_
    · rintro D i y H' H3 nD hi rfl ⟨rfl, c, hc, rfl⟩
      have ec : c = 97 + i := abcd_at hc
      subst ec
      have hi4 : i < 4 := hi
      have h2D := upd_new (o := .lst ((cnts (lx its) (min i n)).map V.int)) nD h2
      walk_at "vc"
      refine ⟨_, dx, _, h2D, T.k_Weave, T.a_Weave_own_letters, _, rfl, ?_⟩
      walk_at "vc"
      rw [sg_cps]
      refine ⟨_, rfl, if_d (fun e => ?_) (fun e => ?_)⟩
      · have hin : i < n := by
          rcases Nat.lt_or_ge i n with h | h
          · exact h
          · have := hW.no i h hi4
            have := List.count_pos_iff.mpr e
            omega
        refine ⟨_, dx, _, h2D, T.k_Weave, T.a_Weave_own_letters, _, rfl, rfl, _, rfl, _, upd_same, ?_, ?_⟩
        · rw [List.length_map]
          unfold cnts
          rw [List.length_map, List.length_range]
          exact lt_size (by omega)
        · rw [upd_upd, count_sign, Nat.min_eq_left (by omega), Nat.min_eq_left (by omega), cnts_succ, List.map_append]
          rfl
      · have hin : n ≤ i := by
          rcases Nat.lt_or_ge i n with h | h
          · have := hW.lo i h
            exact absurd (List.count_pos_iff.mp (by omega)) e
          · exact h
        rw [Nat.min_eq_right hin, Nat.min_eq_right (by omega)]
    · rintro D H' nD rfl
      walk_at "vc"
      have e4 : (Str.ofString "abcd").cps.size = 4 := by decide +kernel
      rw [e4, Nat.min_eq_right hW.n4]
      refine ⟨_, sqL_of upd_same, fun l nl => ?_⟩
      have h3 := upd_new (o := .tup ((cnts (lx its) n).map V.int)) nl (upd_new (o := .lst ((cnts (lx its) n).map V.int)) nD h2)
      refine ⟨_, dx, _, h3, T.k_Weave, T.a_Weave_own_shape, by show 1 < 1000; decide, ?_⟩
      refine q _ ((b2.new nD).new nl).at ⟨dx, l, upd_same, upd_at ?_ upd_same⟩
      exact (ne_of_none (upd_new nD h2) nl).symm)
/-- a new weave, wherever it is made -/
theorem weave_do {its : List Item} {n : Nat} {H : Hp} {Q : Addr → Hp → Prop} (hok : ∀ it ∈ its, ItOk it) (hl : (fx its).length ≤ 9000) (hW : WOk (lx its) n) (q : ∀ x H', Same H H' → H x = none → shp K H' x (lx its) n → Q x H') :
    ∀ x dx, H x = none → H dx = none → dx ≠ x → sp_Weave___init__ K [.ref x, .str (sg (fx its))] (upd (upd H dx (.own x)) x (.ins (He.ga K "Weave") dx [])) (fun v H2 => v = .non ∧ Q x H2) E0 :=
  fun x dx nx ndx ne => ⟨x, dx, its, n, rfl, upd_same, hok, hl, hW, fun H' b s => ⟨rfl, q x H' (fun y o h => b y o (ne_of_none h nx) (upd_at (ne_of_none h nx) (upd_new ndx h))) nx s⟩⟩
def sp_Weave_letters (K : PySem.W.Frag) : Sp := fun vs H Q _ => ∃ (x : Addr) (l : List Nat) (n : Nat), vs = [.ref x] ∧ shp K H x l n ∧ Q (.str (sg l)) H
theorem O_Weave_letters (T : Txt K mg) : OkM P w K mg base CX0 1 (gpa K (He.ga K "Weave") "letters") ["self"] (sp_Weave_letters K) :=
  OkM.mk0 T.f_Weave_letters sc_Weave_letters (by rintro vs H Q E ⟨_, _, _, rfl, _⟩; rfl) (fun _ _ _ _ _ _ us hl => match us, hl with | [_], _ => rfl) (fun f cdv A outer s H vs Q E hr h => by
    obtain ⟨x, l, n, rfl, ⟨dx, sh, hx, hs⟩, q⟩ := h
    refine ⟨_, (pss_one (ps_ret (fldK K (pv 0)))), ?_⟩
    walk_at "vc"
    exact ⟨_, dx, _, hx, T.k_Weave, T.a_Weave_own_letters, _, rfl, q⟩)
def sp_Weave_shape (K : PySem.W.Frag) : Sp := fun vs H Q _ => ∃ (x : Addr) (l : List Nat) (n : Nat), vs = [.ref x] ∧ shp K H x l n ∧ ∀ sh, H sh = some (.tup ((cnts l n).map V.int)) → Q (.ref sh) H
theorem O_Weave_shape (T : Txt K mg) : OkM P w K mg base CX0 1 (gpa K (He.ga K "Weave") "shape") ["self"] (sp_Weave_shape K) :=
  OkM.mk0 T.f_Weave_shape sc_Weave_shape (by rintro vs H Q E ⟨_, _, _, rfl, _⟩; rfl) (fun _ _ _ _ _ _ us hl => match us, hl with | [_], _ => rfl) (fun f cdv A outer s H vs Q E hr h => by
    obtain ⟨x, l, n, rfl, ⟨dx, sh, hx, hs⟩, q⟩ := h
    refine ⟨_, (pss_one (ps_ret (fldK K (pv 0)))), ?_⟩
    walk_at "vc"
    exact ⟨_, dx, _, hx, T.k_Weave, T.a_Weave_own_shape, _, rfl, q sh hs⟩)

theorem weave_new {l : List Nat} {n : Nat} {H : Hp} {Q : Addr → Hp → Prop} (hW : WOk l n) (q : ∀ x H', Same H H' → H x = none → shp K H' x l n → Q x H') :
    ∀ x dx, H x = none → H dx = none → dx ≠ x → sp_Weave___init__ K [.ref x, .str (sg l)] (upd (upd H dx (.own x)) x (.ins (He.ga K "Weave") dx [])) (fun v H2 => v = .non ∧ Q x H2) E0 := by
  have e1 : fx (l.map fun c => (c, 1, [])) = l := by
    unfold fx
    rw [List.flatMap_map]
    simp
  have e2 : lx (l.map fun c => (c, 1, [])) = l := by
    unfold lx
    rw [List.flatMap_map]
    simp
  have h := weave_do (K := K) (its := l.map fun c => (c, 1, [])) (n := n) (H := H) (Q := Q) (fun it hit => by
    obtain ⟨c, hc, rfl⟩ := List.mem_map.mp hit
    obtain ⟨a, b⟩ := hW.al c hc
    exact ⟨a, b, ⟨(fun d hd => by cases hd), (fun _ => rfl), Nat.zero_le _, (fun z => absurd rfl z)⟩⟩) (by rw [e1]; exact Nat.le_trans hW.le (by decide)) (by rw [e2]; exact hW) (by rw [e2]; exact q)
  rw [e1] at h
  exact h

end
section
variable {P : Program} {w : World} {K : PySem.W.Frag} {mg : Str → Option Value} {base : Heap}
def sp_is_int : Sp := fun vs H Q _ => ∃ i : Int, vs = [.int i] ∧ Q (.bl true) H
theorem O_is_int (T : Txt K mg) : Ok P w K mg base CX0 1 "is_int" ["value"] sp_is_int :=
  Ok.mk0 T.f_is_int T.g_is_int sc_is_int (by rintro vs H Q E ⟨_, rfl, _⟩; rfl) (fun _ _ _ _ _ _ us hl => match us, hl with | [_], _ => rfl) (fun f cdv A outer s H vs Q E hr h => by
    obtain ⟨i, rfl, q⟩ := h
    refine ⟨_, (pss_one (ps_ret (pe_and (pe_callB (isi K) (by rfl) T.n_isinstance (by decide +kernel) (pa_cons (pv 0) (pa_cons (pe_bltn (v := .ty "int") rfl T.n_int (by decide +kernel) rfl) pa_nil))) (pe_one (pe_not (pe_callB (isi K) (by rfl) T.n_isinstance (by decide +kernel) (pa_cons (pv 0) (pa_cons (pe_bltn (v := .ty "bool") rfl T.n_bool (by decide +kernel) rfl) pa_nil)))))))), ?_⟩
    walk_at "vc"
    exact q)

def sp_require_weave (K : PySem.W.Frag) : Sp := fun vs H Q _ => ∃ (x : Addr) (l : List Nat) (n : Nat), vs = [.ref x] ∧ shp K H x l n ∧ Q .non H
theorem O_require_weave (T : Txt K mg) : Ok P w K mg base CX0 1 "require_weave" ["value"] (sp_require_weave K) :=
  Ok.mk0 T.f_require_weave T.g_require_weave sc_require_weave (by rintro vs H Q E ⟨_, _, _, rfl, _⟩; rfl) (fun _ _ _ _ _ _ us hl => match us, hl with | [_], _ => rfl) (fun f cdv A outer s H vs Q E hr h => by
    obtain ⟨x, l, n, rfl, ⟨dx, sh, hx, hs⟩, q⟩ := h
    refine ⟨_, (pss_one (ps_if (pt_not (pt_val (pe_callB (isi K) (by rfl) T.n_isinstance (by decide +kernel) (pa_cons (pv 0) (pa_cons (pe_glob (v := .ref (He.ga K "Weave")) rfl T.g_Weave rfl) pa_nil))))) (pss_one ps_never) pss_nil)), ?_⟩
    walk_at "vc"
    exact isi_own (T.i_Weave.ty T.k_Weave hx) kit_own (if_f rfl q))
theorem shape_do {H : Hp} {x : Addr} {l : List Nat} {n : Nat} {Q : VK} {E : XK} (h : shp K H x l n) (q : ∀ sh, H sh = some (.tup ((cnts l n).map V.int)) → Q (.ref sh) H) : ∃ dx fs, H x = some (.ins (He.ga K "Weave") dx fs) ∧ sp_Weave_shape K [.ref x] H Q E := by
  obtain ⟨dx, sh, h1, h2⟩ := id h
  exact ⟨dx, _, h1, x, l, n, rfl, h, q⟩
theorem letters_do {H : Hp} {x : Addr} {l : List Nat} {n : Nat} {Q : VK} {E : XK} (h : shp K H x l n) (q : Q (.str (sg l)) H) : ∃ dx fs, H x = some (.ins (He.ga K "Weave") dx fs) ∧ sp_Weave_letters K [.ref x] H Q E := by
  obtain ⟨dx, sh, h1, h2⟩ := id h
  exact ⟨dx, _, h1, x, l, n, rfl, h, q⟩

def sp_require_key : Sp := fun vs H Q _ => ∃ (l : List Nat) (n : Nat) (sh : Addr) (key : Int), vs = [.ref sh, .int key] ∧ WOk l n ∧ H sh = some (.tup ((cnts l n).map V.int)) ∧ 0 ≤ key ∧ key < 2 ^ l.length ∧ Q .non H
theorem O_require_key (T : Txt K mg) : Ok P w K mg base CX0 2 "require_key" ["shape", "value"] sp_require_key :=
  Ok.mk0 T.f_require_key T.g_require_key sc_require_key (by rintro vs H Q E ⟨_, _, _, _, rfl, _⟩; rfl) (fun _ _ _ _ _ _ us hl => match us, hl with | [_, _], _ => rfl) (fun f cdv A outer s H vs Q E hr h => by
    obtain ⟨l, n, sh, key, rfl, hW, hsh, k0, k1, q⟩ := h
    refine ⟨_, (pss_one (ps_if (PW.pt (pw_or (pt_not (pt_val (cal (O_is_int T) hr (pa_cons (pv 1) pa_nil)))) (pw_or (pt_cmpR op_lt (pv 1) pe_int (nomark _)) (pw_or1 (pt_cmpR op_ne (pe_op op_shrN (pv 1) (pe_callB (sumT K) (by rfl) T.n_sum (by decide +kernel) (pa_cons (pv 0) pa_nil))) pe_int (nomark _)))))) (pss_one ps_never) pss_nil)), ?_⟩
    walk_at "vc"
    exact ⟨key, rfl, true, rfl, if_f rfl (if_d (fun z => absurd z (by omega)) fun _ => ⟨cnts l n, sqT_of hsh, l.length, by rw [hW.sum], if_nd (fun z => z (Int.ediv_eq_zero_of_lt k0 k1)) fun _ => q⟩)⟩)

/-! ### boxes -/
def sp_product_of (K : PySem.W.Frag) : Sp := fun vs H Q _ => ∃ (a : Addr) (ns : List Int), vs = [.ref a] ∧ SqL K H a (ns.map V.int) ∧ ns.length ≤ 4 ∧ (∀ x ∈ ns, 0 ≤ x ∧ x < 2 ^ 130) ∧ Q (.int (prodI ns)) H
theorem O_product_of (T : Txt K mg) : Ok P w K mg base CX0 1 "product_of" ["numbers"] (sp_product_of K) :=
  Ok.mk0 T.f_product_of T.g_product_of sc_product_of (by rintro vs H Q E ⟨_, _, rfl, _⟩; rfl) (fun _ _ _ _ _ _ us hl => match us, hl with | [_], _ => rfl) (fun f cdv A outer s H vs Q E hr h => by
    obtain ⟨a, ns, rfl, ha, hl, hb, q⟩ := h
    refine ⟨_, (pss_cons (ps_set (i := 1) sc_product_of.nd rfl (.inl rfl) pe_int)
    (pss_cons (ps_for PassesOwn.never rfl (piL K (pv 0)) (pg_name (i := 2) sc_product_of.nd rfl (.inl rfl)) (pss_one (ps_set (i := 1) sc_product_of.nd rfl (.inl rfl) (pe_op op_mulX (pv 1) (pv 2)))))
    (pss_one (ps_ret (pv 1))))), ?_⟩
    walk_at "vc"
    refine ⟨⟨_, ha⟩, ?_⟩
    refine loop_l (xs := ns.map V.int) (fun i σ' H' => ∃ y2 : Option V, σ' = [some (.ref a), some (.int (prodI (ns.take i))), y2] ∧ H' = H) ⟨none, rfl, rfl⟩ (by rintro i σ' H' _ ⟨_, _, rfl⟩; exact ha) ?_ ?_
    · rintro i x σ' H' hx ⟨y2, rfl, rfl⟩
      rw [List.getElem?_map] at hx
      obtain ⟨v, hv, rfl⟩ := Option.map_eq_some_iff.mp hx
      have hi := (List.getElem?_eq_some_iff.mp hv).1
      walk_at "vc"
      obtain ⟨b0, b1⟩ := prodI_bound (ns.take i) fun x hx => hb x (List.mem_of_mem_take hx)
      obtain ⟨v0, v1⟩ := hb v (List.mem_of_getElem? hv)
      rw [List.length_take] at b1
      refine ⟨mulx_of (a := 600) (b := 130) b0 (lt_pow b1 (by omega)) v0 v1 (by decide), ?_⟩
      rw [take_snocG hv, prodI_snoc]
      exact ⟨rfl, _, rfl⟩
    · rintro σ' H' ⟨y2, rfl, rfl⟩
      walk_at "vc"
      rw [List.length_map, List.take_length]
      exact q)
def sp_cells_in : Sp := fun vs H Q _ => ∃ (b : Addr) (bx : List (Int × Int)), vs = [.ref b] ∧ BoxAt H b bx ∧ bx.length ≤ 4 ∧ (∀ p ∈ bx, p.1 ≤ p.2 + 1 ∧ p.2 < p.1 + 2 ^ 129) ∧ ∀ H', Same H H' → Q (.int (prodI (bx.map fun p => p.2 - p.1 + 1))) H'
theorem O_cells_in (T : Txt K mg) : Ok P w K mg base CX0 2 "cells_in" ["box"] sp_cells_in :=
  Ok.mk0 T.f_cells_in T.g_cells_in sc_cells_in (by rintro vs H Q E ⟨_, _, rfl, _⟩; rfl) (fun _ _ _ _ _ _ us hl => match us, hl with | [_], _ => rfl) (fun f cdv A outer s H vs Q E hr h => by
    obtain ⟨b, bx, rfl, hb, h4, hp, q⟩ := h
    refine ⟨_, (pss_one (ps_ret (cal (O_product_of T) hr (pa_cons (pe_lc (own := [("low", 1), ("high", 2)]) (g := (gTup K 2 (gCons (gName 1) (gCons (gName 2) gNil)))) rfl sc_cells_in.nd (piT K (pv 0)) (blkOk_by (N := N_cells_in) (sc := defScope s_cells_in) (by decide +kernel)) (fun _ _ _ _ _ => (pgTup K (n := 2) (pgs_cons (pg_name (i := 1) sc_cells_in.nd rfl (.inl rfl)) (pgs_cons (pg_name (i := 2) sc_cells_in.nd rfl (.inl rfl)) pgs_nil)))) (fun _ _ _ _ _ => pts_nil) (fun _ _ _ _ _ => (pe_op op_add (pe_op op_sub (pv 2) (pv 1)) pe_int))) pa_nil)))), ?_⟩
    walk_at "vc"
    obtain ⟨xs, hx, ht⟩ := hb
    refine ⟨⟨_, sqT_of hx⟩, ?_⟩
    refine comp_t (xs := xs) (fun D i H' => Same H H' ∧ H' D = some (.lst (((bx.take i).map fun p => p.2 - p.1 + 1).map V.int))) (fun D nD => ⟨same_new nD, upd_same⟩) (fun D i H' nD _ h => sqT_of (h.1 _ _ hx)) ?_ ?_
    · rintro D i x H' nD hxi ⟨s1, hD⟩
      obtain ⟨a, rfl, hi, ha⟩ := (ht.same s1).pair hxi
      walk_at "vc"
      refine ⟨_, sqT_of ha, rfl, _, _, rfl, _, _, rfl, rfl, ?_⟩
      walk_at "vc"
      refine ⟨_, hD, lt_size (by rw [List.length_map, List.length_map, List.length_take]; omega), s1.own nD, ?_⟩
      have hg : bx[i]? = some (bx.getD i (0, 0)) := by rw [List.getD_eq_getElem?_getD, List.getElem?_eq_getElem hi]; rfl
      rw [upd_same, take_snocG hg, List.map_append, List.map_append]
      rfl
    · rintro D H' nD ⟨s1, hD⟩
      rw [ht.lenB, List.take_length] at hD
      refine ⟨D, _, rfl, sqL_of hD, by rw [List.length_map]; exact h4, fun x hx => ?_, q _ s1⟩
      obtain ⟨p, hp2, rfl⟩ := List.mem_map.mp hx
      have := hp p hp2
      have e : (2 : Int) ^ 130 = 2 * 2 ^ 129 := by decide +kernel
      rw [e]
      omega)
def sp_met_box : Sp := fun vs H Q _ => ∃ (b c : Addr) (bx cx : List (Int × Int)), vs = [.ref b, .ref c] ∧ BoxAt H b bx ∧ BoxAt H c cx ∧ cx.length = bx.length ∧ bx.length ≤ 4 ∧ ∀ H', Same H H' → (metOk bx cx = false → Q .non H') ∧ ∀ r, metOk bx cx = true → BoxAt H' r (metB bx cx) → Q (.ref r) H'
theorem O_met_box (T : Txt K mg) : Ok P w K mg base CX0 1 "met_box" ["one", "other"] sp_met_box :=
  Ok.mk0 T.f_met_box T.g_met_box sc_met_box (by rintro vs H Q E ⟨_, _, _, _, rfl, _⟩; rfl) (fun _ _ _ _ _ _ us hl => match us, hl with | [_, _], _ => rfl) (fun f cdv A outer s H vs Q E hr h => by
    obtain ⟨b, c, bx, cx, rfl, hb, hc, hl, h4, q⟩ := h
    refine ⟨_, (pss_cons (ps_setLc (i := 2) (own := [("left", 3), ("right", 4)]) (g := (gTup K 2 (gCons (gName 3) (gCons (gName 4) gNil)))) rfl sc_met_box.nd rfl rfl (sw_true rfl rfl rfl (by decide +kernel)) (piZipT K T.n_zip (pa_cons (pv 0) (pa_cons (pv 1) pa_nil))) (blkOk_by (N := N_met_box) (sc := defScope s_met_box) (by decide +kernel)) (fun _ _ _ _ _ => (pgTup K (n := 2) (pgs_cons (pg_name (i := 3) sc_met_box.nd rfl (.inl rfl)) (pgs_cons (pg_name (i := 4) sc_met_box.nd rfl (.inl rfl)) pgs_nil)))) (fun _ _ _ _ _ => pts_nil) (fun _ _ _ _ _ => (pe_tup (pa_cons (pe_callB max2 (by rfl) T.n_max (by decide +kernel) (pa_cons (pe_ix (ixT K) (pv 3) pe_int (fun _ _ => rfl)) (pa_cons (pe_ix (ixT K) (pv 4) pe_int (fun _ _ => rfl)) pa_nil))) (pa_cons (pe_callB min2 (by rfl) T.n_min (by decide +kernel) (pa_cons (pe_ix (ixT K) (pv 3) pe_int (fun _ _ => rfl)) (pa_cons (pe_ix (ixT K) (pv 4) pe_int (fun _ _ => rfl)) pa_nil))) pa_nil)))))
    (pss_one (ps_ret (pe_ifExp (pt_val (pe_callB (allL K) (by rfl) T.n_all (by decide +kernel) (pa_cons (pe_lc (own := [("low", 5), ("high", 6)]) (g := (gTup K 2 (gCons (gName 5) (gCons (gName 6) gNil)))) rfl sc_met_box.nd (piL K (pv 2)) (blkOk_by (N := N_met_box) (sc := defScope s_met_box) (by decide +kernel)) (fun _ _ _ _ _ => (pgTup K (n := 2) (pgs_cons (pg_name (i := 5) sc_met_box.nd rfl (.inl rfl)) (pgs_cons (pg_name (i := 6) sc_met_box.nd rfl (.inl rfl)) pgs_nil)))) (fun _ _ _ _ _ => pts_nil) (fun _ _ _ _ _ => (pe_cmpR op_le (pv 5) (pv 6) (nomark _)))) pa_nil))) (pe_callTy (tupleOf K) (by rfl) T.n_tuple (by decide +kernel) (pa_cons (pv 2) pa_nil)) pe_non)))), ?_⟩
    walk_at "vc"
    obtain ⟨xs, hx, htx⟩ := hb
    obtain ⟨ys, hy, hty⟩ := hc
    have hz : bx.length = min xs.length ys.length := by rw [htx.lenB, hty.lenB, hl, Nat.min_self]
    refine ⟨_, sqT_of hx, _, sqT_of hy, ?_⟩
    refine comp_w (walk_zipT hz) (fun D i H' => Same H H' ∧ ∃ zs, H' D = some (.lst zs) ∧ TupsAt H' zs (((metB bx cx).take i).map prV)) (fun D nD => ⟨same_new nD, [], upd_same, .nil⟩) (fun D i H' nD hi h => ⟨sqT_of (h.1 _ _ hx), sqT_of (h.1 _ _ hy)⟩) ?_ ?_
    · rintro D i x H1 H2 nD hi ⟨s1, zs, hD, hzs⟩ ⟨T1, x1, x2, rfl, nT, rfl, g1, g2⟩
      obtain ⟨a1, rfl, _, ha1⟩ := (htx.same (s1.new (o := .tup [x1, x2]) nT)).pair g1
      obtain ⟨a2, rfl, _, ha2⟩ := (hty.same (s1.new (o := .tup [.ref a1, x2]) nT)).pair g2
      walk_at "vc"
      refine ⟨_, sqT_of upd_same, rfl, _, _, rfl, _, _, rfl, rfl, ?_⟩
      walk_at "vc"
      refine ⟨_, sqT_of ha1, _, rfl, _, sqT_of ha2, _, rfl, _, rfl, _, rfl, _, sqT_of ha1, _, rfl, _, sqT_of ha2, _, rfl, _, rfl, _, rfl, le_size (by decide), fun p np => ?_⟩
      refine ⟨zs, upd_new np (upd_new nT hD), lt_size (by rw [hzs.lenB, List.length_take]; omega), ((s1.new nT).new np).own nD, _, upd_same, ?_⟩
      rw [take_snocG (metB_at (cx := cx) hi), List.map_append]
      exact ((((hzs.same (same_new nT)).same (same_new np)).snoc upd_same).put (upd_new np (upd_new nT hD)))
    · rintro D H1 nD ⟨s1, zs, hD, hzs⟩
      walk_at "vc"
      rw [List.take_of_length_le (by rw [metB_len]; exact Nat.le_refl _)] at hzs
      refine ⟨⟨_, sqL_of hD⟩, ?_⟩
      refine comp_l (xs := zs) (fun E i H' => Same H1 H' ∧ H' E = some (.lst ((((metB bx cx).take i).map fun p => decide (p.1 ≤ p.2)).map V.bl))) (fun E nE => ⟨same_new nE, upd_same⟩) (fun E i H' nE _ h => sqL_of (h.1 _ _ hD)) ?_ ?_
      · rintro E i x H' nE hxi ⟨s2, hE⟩
        obtain ⟨a, rfl, hi, ha⟩ := (hzs.same s2).pair hxi
        walk_at "vc"
        refine ⟨_, sqT_of ha, rfl, _, _, rfl, _, _, rfl, rfl, ?_⟩
        walk_at "vc"
        rw [metB_len] at hi
        refine ⟨_, hE, lt_size (by rw [List.length_map, List.length_map, List.length_take, metB_len]; omega), s2.own nE, ?_⟩
        have hg : (metB bx cx)[i]? = some ((metB bx cx).getD i (0, 0)) := by rw [List.getD_eq_getElem?_getD, List.getElem?_eq_getElem (by rw [metB_len]; exact hi)]; rfl
        rw [upd_same, take_snocG hg, List.map_append, List.map_append]
        rfl
      · rintro E H2 nE ⟨s2, hE⟩
        rw [hzs.lenB, List.take_length] at hE
        refine ⟨E, _, rfl, sqL_of hE, _, rfl, ?_⟩
        have eo : ((metB bx cx).map fun p => decide (p.1 ≤ p.2)).all id = metOk bx cx := by
          unfold metOk
          rw [List.all_map]
          rfl
        rw [eo]
        refine if_c (fun h => ⟨_, sqL_of (s2 _ _ hD), fun r nr => ?_⟩) fun h => (q H2 (s1.trans s2)).1 h
        exact (q _ ((s1.trans s2).new nr)).2 r h ⟨zs, upd_same, (hzs.same s2).same (same_new nr)⟩)
def sp_whole_box (K : PySem.W.Frag) : Sp := fun vs H Q _ => ∃ (p : Addr) (sh : List Int), vs = [.ref p] ∧ SqT K H p (sh.map V.int) ∧ ShOk sh ∧ ∀ r H', Same H H' → BoxAt H' r (sh.map fun b => ((0 : Int), 2 ^ b.toNat - 1)) → Q (.ref r) H'
theorem O_whole_box (T : Txt K mg) : Ok P w K mg base CX0 1 "whole_box" ["shape"] (sp_whole_box K) :=
  Ok.mk0 T.f_whole_box T.g_whole_box sc_whole_box (by rintro vs H Q E ⟨_, _, rfl, _⟩; rfl) (fun _ _ _ _ _ _ us hl => match us, hl with | [_], _ => rfl) (fun f cdv A outer s H vs Q E hr h => by
    obtain ⟨p, sh, rfl, hp, hsh, q⟩ := h
    refine ⟨_, (pss_one (ps_ret (pe_callTy (tupleOf K) (by rfl) T.n_tuple (by decide +kernel) (pa_cons (pe_lc (own := [("bits", 1)]) (g := (gName 1)) rfl sc_whole_box.nd (piT K (pv 0)) (blkOk_by (N := N_whole_box) (sc := defScope s_whole_box) (by decide +kernel)) (fun _ _ _ _ _ => (pg_name (i := 1) sc_whole_box.nd rfl (.inl rfl))) (fun _ _ _ _ _ => pts_nil) (fun _ _ _ _ _ => (pe_tup (pa_cons pe_int (pa_cons (pe_op op_sub (pe_op op_oneShl pe_int (pv 1)) pe_int) pa_nil))))) pa_nil)))), ?_⟩
    walk_at "vc"
    refine ⟨⟨_, hp⟩, ?_⟩
    have n4 := hsh.n4
    refine comp_t (xs := sh.map V.int) (fun D i H' => Same H H' ∧ ∃ zs, H' D = some (.lst zs) ∧ TupsAt H' zs (((sh.map fun b => ((0 : Int), (2 : Int) ^ b.toNat - 1)).take i).map prV)) (fun D nD => ⟨same_new nD, [], upd_same, .nil⟩) (fun D i H' nD _ h => h.1.sqT hp) ?_ ?_
    · rintro D i x H' nD hx ⟨s1, zs, hD, hzs⟩
      have hi : i < sh.length := by
        have := (List.getElem?_eq_some_iff.mp hx).1
        rw [List.length_map] at this
        exact this
      have ex : x = .int (sh.getD i 0) := Option.some.inj (hx.symm.trans (ints_at hi))
      subst ex
      obtain ⟨t0, t1⟩ := hsh.at hi
      walk_at "vc"
      refine ⟨(sh.getD i 0).toNat, by omega, by omega, le_size (by decide), fun r nr => ⟨zs, upd_new nr hD, lt_size (by rw [hzs.lenB, List.length_take, List.length_map]; omega), (s1.new nr).own nD, _, upd_same, ?_⟩⟩
      have hg : (sh.map fun b => ((0 : Int), (2 : Int) ^ b.toNat - 1))[i]? = some (0, 2 ^ (sh.getD i 0).toNat - 1) := by
        rw [List.getElem?_map, List.getElem?_eq_getElem hi, List.getD_eq_getElem?_getD, List.getElem?_eq_getElem hi]
        rfl
      rw [take_snocG hg, List.map_append]
      exact ((hzs.same (same_new nr)).snoc upd_same).put (upd_new nr hD)
    · rintro D H' nD ⟨s1, zs, hD, hzs⟩
      walk_at "vc"
      rw [List.length_map, List.take_of_length_le (by rw [List.length_map]; exact Nat.le_refl _)] at hzs
      exact ⟨_, sqL_of hD, fun r nr => q r _ (s1.new nr) ⟨zs, upd_same, hzs.same (same_new nr)⟩⟩)
def sp_half_of : Sp := fun vs H Q _ => ∃ (b : Addr) (bx : List (Int × Int)) (a : Nat) (bit : Int), vs = [.ref b, .int (a : Int), .int bit] ∧ BoxAt H b bx ∧ a < bx.length ∧ bx.length ≤ 4 ∧ ∀ r H', Same H H' → BoxAt H' r (halfB bx a bit) → Q (.ref r) H'
theorem O_half_of (T : Txt K mg) : Ok P w K mg base CX0 1 "half_of" ["node", "axis", "bit"] sp_half_of :=
  Ok.mk0 T.f_half_of T.g_half_of sc_half_of (by rintro vs H Q E ⟨_, _, _, _, rfl, _⟩; rfl) (fun _ _ _ _ _ _ us hl => match us, hl with | [_, _, _], _ => rfl) (fun f cdv A outer s H vs Q E hr h => by
    obtain ⟨b, bx, a, bit, rfl, hb, ha, h4, q⟩ := h
    refine ⟨_, (pss_cons (ps_asg (pe_ix (ixT K) (pv 0) (pv 1) (fun _ _ => rfl)) (pgTup K (n := 2) (pgs_cons (pg_name (i := 3) sc_half_of.nd rfl (.inl rfl)) (pgs_cons (pg_name (i := 4) sc_half_of.nd rfl (.inl rfl)) pgs_nil))))
    (pss_cons (ps_set (i := 5) sc_half_of.nd rfl (.inl rfl) (pe_op op_fdivW (pe_op op_add (pe_op op_add (pv 3) (pv 4)) pe_int) pe_int))
    (pss_consB (ps_set (i := 6) sc_half_of.nd rfl (.inl rfl) (pe_ifExp (pt_cmpR op_eq (pv 2) pe_int (nomark _)) (pe_tup (pa_cons (pv 3) (pa_cons (pe_op op_sub (pv 5) pe_int) pa_nil))) (pe_tup (pa_cons (pv 5) (pa_cons (pv 4) pa_nil)))))
    (pss_one (ps_ret (pe_op (catA K) (pe_op (catA K) (pe_slice (slT K) (pv 0) po_none (po_some (pv 1))) (pe_tup (pa_cons (pv 6) pa_nil))) (pe_slice (slT K) (pv 0) (po_some (pe_op op_add (pv 1) pe_int)) po_none))))))), ?_⟩
    walk_at "vc"
    obtain ⟨xs, hx, ht⟩ := hb
    have hax : a < xs.length := by rw [ht.lenB]; exact ha
    obtain ⟨q1, e1, _, hq1⟩ := ht.pair (List.getElem?_eq_getElem hax)
    refine ⟨_, sqT_of hx, _, at_nat rfl (List.getElem?_eq_getElem hax), q1, e1, _, sqT_of hq1, rfl, _, _, rfl, _, _, rfl, rfl, _, rfl, _, rfl, cdiv_of (k := 10) (by decide) (by decide) (by decide), ?_⟩
    refine seq_by (fun σ' H' => ∃ (r : Addr) (p : Int × Int), σ' = [some (.ref b), some (.int (a : Int)), some (.int bit), some (.int (bx.getD a (0, 0)).1), some (.int (bx.getD a (0, 0)).2), some (.int (((bx.getD a (0, 0)).1 + (bx.getD a (0, 0)).2 + 1) / 2)), some (.ref r)] ∧ Same H H' ∧ H' r = some (.tup (prV p)) ∧ halfB bx a bit = bx.set a p) ?_ ?_
    · rintro σ' H1 ⟨r, p, rfl, s1, hr1, hh⟩
      walk_at "vc"
      refine put_do (sqT_of (s1 _ _ hx)) hax (by rw [ht.lenB]; omega) fun z H2 s2 hz => q z H2 (s1.trans s2) ⟨_, hz, ?_⟩
      rw [hh]
      exact ((ht.same s1).same s2).setB (s2 _ _ hr1)
    · intro k hk
      walk_at "vc"
      refine if_d (fun e => ⟨le_size (by decide), fun r nr => hk _ _ ⟨r, _, rfl, same_new nr, upd_same, by unfold halfB; rw [if_pos e]⟩⟩) (fun e => ⟨le_size (by decide), fun r nr => hk _ _ ⟨r, _, rfl, same_new nr, upd_same, by unfold halfB; rw [if_neg e]⟩⟩))

end
section
variable {P : Program} {w : World} {K : PySem.W.Frag} {mg : Str → Option Value} {base : Heap}
/-! ### stretches, boxes that are good -/
def sp_is_stretch : Sp := fun vs H Q _ => ∃ (b : Nat) (a : Addr) (lo hi : Int), vs = [.int (b : Int), .ref a] ∧ H a = some (.tup [.int lo, .int hi]) ∧ 0 ≤ lo ∧ lo ≤ hi ∧ hi < 2 ^ b ∧ Q (.bl true) H
theorem O_is_stretch (T : Txt K mg) : Ok P w K mg base CX0 2 "is_stretch" ["bits", "value"] sp_is_stretch :=
  Ok.mk0 T.f_is_stretch T.g_is_stretch sc_is_stretch (by rintro vs H Q E ⟨_, _, _, _, rfl, _⟩; rfl) (fun _ _ _ _ _ _ us hl => match us, hl with | [_, _], _ => rfl) (fun f cdv A outer s H vs Q E hr h => by
    obtain ⟨b, a, lo, hi, rfl, ha, h0, h1, h2, q⟩ := h
    refine ⟨_, (pss_cons (ps_if (PW.pt (pw_or (pt_not (pt_val (pe_callB (isi K) (by rfl) T.n_isinstance (by decide +kernel) (pa_cons (pv 1) (pa_cons (pe_bltn (v := .ty "tuple") rfl T.n_tuple (by decide +kernel) rfl) pa_nil))))) (pw_or (pt_cmpR op_ne (pe_callB (lenU K) (by rfl) T.n_len (by decide +kernel) (pa_cons (pv 1) pa_nil)) pe_int (nomark _)) (pw_or (pt_not (pt_val (cal (O_is_int T) hr (pa_cons (pe_ix (ixT K) (pv 1) pe_int (fun _ _ => rfl)) pa_nil)))) (pw_or1 (pt_not (pt_val (cal (O_is_int T) hr (pa_cons (pe_ix (ixT K) (pv 1) pe_int (fun _ _ => rfl)) pa_nil))))))))) (pss_one (ps_ret pe_bl)) pss_nil)
    (pss_one (ps_ret (pe_and (pe_chain op_le op_le pe_int (pe_ix (ixT K) (pv 1) pe_int (fun _ _ => rfl)) (pe_ix (ixT K) (pv 1) pe_int (fun _ _ => rfl))) (pe_one (pe_cmpR op_eq (pe_op op_shrN (pe_ix (ixT K) (pv 1) pe_int (fun _ _ => rfl)) (pv 0)) pe_int (nomark _))))))), ?_⟩
    walk_at "vc"
    refine isi_tt ha (if_f rfl ⟨_, .inr ⟨_, sqT_of ha, rfl⟩, if_nd (fun z => absurd rfl z) fun _ => ⟨_, sqT_of ha, _, rfl, lo, rfl, _, rfl, if_f rfl ⟨_, sqT_of ha, _, rfl, hi, rfl, _, rfl, if_f rfl ⟨_, sqT_of ha, _, rfl, _, rfl, if_t (decide_eq_true h0) ⟨_, sqT_of ha, _, rfl, _, rfl, _, rfl, if_t (decide_eq_true h1) ⟨_, sqT_of ha, _, rfl, _, rfl, b, rfl, ?_⟩⟩⟩⟩⟩⟩)
    rw [decide_eq_true (Int.ediv_eq_zero_of_lt (by omega) h2)]
    exact q)
def sp_is_box_of : Sp := fun vs H Q _ => ∃ (p b : Addr) (l : List Nat) (n : Nat) (bx : List (Int × Int)), vs = [.ref p, .ref b] ∧ n ≤ 4 ∧ H p = some (.tup ((cnts l n).map V.int)) ∧ BoxAt H b bx ∧ BoxOk l n bx ∧ ∀ H', Same H H' → Q (.bl true) H'
theorem O_is_box_of (T : Txt K mg) : Ok P w K mg base CX0 3 "is_box_of" ["shape", "value"] sp_is_box_of :=
  Ok.mk0 T.f_is_box_of T.g_is_box_of sc_is_box_of (by rintro vs H Q E ⟨_, _, _, _, _, rfl, _⟩; rfl) (fun _ _ _ _ _ _ us hl => match us, hl with | [_, _], _ => rfl) (fun f cdv A outer s H vs Q E hr h => by
    obtain ⟨p, b, l, n, bx, rfl, h4, hp, hb, hok, q⟩ := h
    refine ⟨_, (pss_cons (ps_if (PW.pt (pw_or (pt_not (pt_val (pe_callB (isi K) (by rfl) T.n_isinstance (by decide +kernel) (pa_cons (pv 1) (pa_cons (pe_bltn (v := .ty "tuple") rfl T.n_tuple (by decide +kernel) rfl) pa_nil))))) (pw_or1 (pt_cmpR op_ne (pe_callB (lenU K) (by rfl) T.n_len (by decide +kernel) (pa_cons (pv 1) pa_nil)) (pe_callB (lenU K) (by rfl) T.n_len (by decide +kernel) (pa_cons (pv 0) pa_nil)) (nomark _))))) (pss_one (ps_ret pe_bl)) pss_nil)
    (pss_one (ps_ret (pe_callB (allL K) (by rfl) T.n_all (by decide +kernel) (pa_cons (pe_lc (own := [("bits", 2), ("stretch", 3)]) (g := (gTup K 2 (gCons (gName 2) (gCons (gName 3) gNil)))) rfl sc_is_box_of.nd (piZipT K T.n_zip (pa_cons (pv 0) (pa_cons (pv 1) pa_nil))) (blkOk_by (N := N_is_box_of) (sc := defScope s_is_box_of) (by decide +kernel)) (fun _ _ _ _ _ => (pgTup K (n := 2) (pgs_cons (pg_name (i := 2) sc_is_box_of.nd rfl (.inl rfl)) (pgs_cons (pg_name (i := 3) sc_is_box_of.nd rfl (.inl rfl)) pgs_nil)))) (fun _ _ _ _ _ => pts_nil) (fun _ _ _ _ _ => (cal (O_is_stretch T) hr (pa_cons (pv 2) (pa_cons (pv 3) pa_nil))))) pa_nil))))), ?_⟩
    walk_at "vc"
    obtain ⟨xs, hx, ht⟩ := hb
    have hlen : xs.length = n := by rw [ht.lenB, hok.len]
    have hz : n = min ((cnts l n).map V.int).length xs.length := by rw [List.length_map, cnts_len, hlen, Nat.min_self]
    refine isi_tt hx (if_f rfl ⟨_, .inr ⟨_, sqT_of hx, rfl⟩, _, .inr ⟨_, sqT_of hp, rfl⟩, if_nd (fun z => absurd (by rw [List.length_map, cnts_len, hlen]) z) fun _ => ⟨_, sqT_of hp, _, sqT_of hx, ?_⟩⟩)
    refine comp_w (walk_zipT hz) (fun D i H' => Same H H' ∧ H' D = some (.lst (List.replicate i (.bl true)))) (fun D nD => ⟨same_new nD, upd_same⟩) (fun D i H' nD hi h => ⟨sqT_of (h.1 _ _ hp), sqT_of (h.1 _ _ hx)⟩) ?_ ?_
    · rintro D i x H1 H2 nD hi ⟨s1, hD⟩ ⟨T1, x1, x2, rfl, nT, rfl, g1, g2⟩
      have e1 : x1 = .int (l.count (97 + i) : Nat) := by
        have : ((cnts l n).map V.int)[i]? = some x1 := g1
        rw [List.getElem?_map, cnts_at hi] at this
        exact (Option.some.inj this).symm
      subst e1
      obtain ⟨a, rfl, hib, ha⟩ := (ht.same (s1.new (o := .tup [.int ((l.count (97 + i) : Nat) : Int), x2]) nT)).pair g2
      walk_at "vc"
      refine ⟨_, sqT_of upd_same, rfl, _, _, rfl, _, _, rfl, rfl, ?_⟩
      walk_at "vc"
      refine ⟨l.count (97 + i), a, _, _, rfl, ha, hok.lo i hi, hok.le i hi, hok.hi i hi, _, upd_new nT hD, lt_size (by rw [List.length_replicate]; omega), (s1.new nT).own nD, ?_⟩
      rw [upd_same, ← List.replicate_succ', List.replicate_succ]
    · rintro D H1 nD ⟨s1, hD⟩
      refine ⟨D, List.replicate n true, rfl, sqL_of (by rw [hD, List.map_replicate]), ?_⟩
      rw [show (List.replicate n true).all id = true by rw [List.all_eq_true]; intro b hb; exact List.eq_of_mem_replicate hb]
      exact q _ s1)
def sp_require_box : Sp := fun vs H Q _ => ∃ (p b : Addr) (l : List Nat) (n : Nat) (bx : List (Int × Int)), vs = [.ref p, .ref b] ∧ n ≤ 4 ∧ H p = some (.tup ((cnts l n).map V.int)) ∧ BoxAt H b bx ∧ BoxOk l n bx ∧ ∀ H', Same H H' → Q .non H'
theorem O_require_box (T : Txt K mg) : Ok P w K mg base CX0 4 "require_box" ["shape", "value"] sp_require_box :=
  Ok.mk0 T.f_require_box T.g_require_box sc_require_box (by rintro vs H Q E ⟨_, _, _, _, _, rfl, _⟩; rfl) (fun _ _ _ _ _ _ us hl => match us, hl with | [_, _], _ => rfl) (fun f cdv A outer s H vs Q E hr h => by
    obtain ⟨p, b, l, n, bx, rfl, h4, hp, hb, hok, q⟩ := h
    refine ⟨_, (pss_one (ps_if (pt_not (pt_val (cal (O_is_box_of T) hr (pa_cons (pv 0) (pa_cons (pv 1) pa_nil))))) (pss_one ps_never) pss_nil)), ?_⟩
    walk_at "vc"
    exact ⟨p, b, l, n, bx, rfl, h4, hp, hb, hok, fun H' s => ⟨_, rfl, if_f rfl (q H' s)⟩⟩)

/-! ### the bits of a key, cells met, ranks -/
def sp_bits_of : Sp := fun vs H Q _ => ∃ (l : List Nat) (key : Int), vs = [.str (sg l), .int key] ∧ (∀ c ∈ l, 97 ≤ c ∧ c ≤ 100) ∧ l.length ≤ 240 ∧ ∀ D xs H', Same H H' → H' D = some (.lst xs) → TupsAt H' xs ((List.range l.length).map fun j => [.int ((l.getD j 0 - 97 : Nat) : Int), .int (key / 2 ^ (l.length - (j + 1)) % 2)]) → Q (.ref D) H'
theorem O_bits_of (T : Txt K mg) : Ok P w K mg base CX0 1 "bits_of" ["letters", "key"] sp_bits_of :=
  Ok.mk0 T.f_bits_of T.g_bits_of sc_bits_of (by rintro vs H Q E ⟨_, _, rfl, _⟩; rfl) (fun _ _ _ _ _ _ us hl => match us, hl with | [_, _], _ => rfl) (fun f cdv A outer s H vs Q E hr h => by
    obtain ⟨l, key, rfl, hl, h240, q⟩ := h
    refine ⟨_, (pss_cons (ps_set (i := 2) sc_bits_of.nd rfl (.inl rfl) (pe_callB (lenU K) (by rfl) T.n_len (by decide +kernel) (pa_cons (pv 0) pa_nil)))
    (pss_cons (ps_set (i := 3) sc_bits_of.nd rfl (.inl rfl) (pe_lst pa_nil))
    (pss_cons (ps_for PassesOwn.never rfl (pi_str (pv 0)) (pg_name (i := 4) sc_bits_of.nd rfl (.inl rfl)) (pss_cons (ps_set (i := 2) sc_bits_of.nd rfl (.inl rfl) (pe_op op_sub (pv 2) pe_int))
    (pss_one (ps_expr (bmK K PySem.F.plainAttrs_list PySem.F.slot_list_append PySem.F.type_list_append mt_append (pv 3) (pa_cons (pe_tup (pa_cons (bmK K PySem.F.plainAttrs_str PySem.F.slot_str_index PySem.F.type_str_index mt_sindex (pe_gstr T.c_AXES) (pa_cons (pv 4) pa_nil)) (pa_cons (pe_op op_mod (pe_op op_shrN (pv 1) (pv 2)) pe_int) pa_nil))) pa_nil))))))
    (pss_one (ps_ret (pv 3)))))), ?_⟩
    walk_at "vc"
    refine ⟨le_size (by rw [sg_len]; omega), Nat.zero_le _, fun D nD => ?_⟩
    rw [sg_len]
    refine loop_w walk_str (fun i σ' H' => ∃ (xs : List V) (y4 : Option V), σ' = [some (.str (sg l)), some (.int key), some (.int ((l.length : Int) - i)), some (.ref D), y4] ∧ Same H H' ∧ H' D = some (.lst xs) ∧ TupsAt H' xs ((List.range i).map fun j => [.int ((l.getD j 0 - 97 : Nat) : Int), .int (key / 2 ^ (l.length - (j + 1)) % 2)]))
      ⟨[], none, by rw [Int.natCast_zero, Int.sub_zero], same_new nD, upd_same, .nil⟩ (fun _ _ _ _ _ => True.intro) ?_ ?_
    · rintro i x σ' H2 H3 hi ⟨xs, y4, rfl, hs, hD, hxs⟩ ⟨rfl, c, hc, rfl⟩
      have hc' : l[i]? = some c := by
        have : (sg l).cps.toList[i]? = some c := by rw [Array.getElem?_toList]; exact hc
        rw [sg_cps] at this
        exact this
      have hil := (List.getElem?_eq_some_iff.mp hc').1
      obtain ⟨c1, c2⟩ := hl c (List.mem_of_getElem? hc')
      have hg : l.getD i 0 = c := by rw [List.getD_eq_getElem?_getD, hc']; rfl
      walk_at "vc"
      refine ⟨tyv_l hD, c - 97, _, abcd_index c1 c2, l.length - (i + 1), by omega, by decide, le_size (by decide), fun p np => ⟨xs, upd_new np hD, lt_size (by rw [hxs.1, List.length_map, List.length_range]; omega), by omega, (hs.new np).own nD, _, upd_same, ?_⟩⟩
      rw [List.range_succ, List.map_append, List.map_singleton, hg]
      exact ((hxs.same (same_new np)).snoc upd_same).put (upd_new np hD)
    · rintro σ' H2 ⟨xs, y4, rfl, hs, hD, hxs⟩
      walk_at "vc"
      rw [show (sg l).cps.size = l.length from sg_len l] at hxs
      exact q D xs H2 hs hD hxs)
def sp_cells_met : Sp := fun vs H Q _ => ∃ (b c : Addr) (bx cx : List (Int × Int)), vs = [.ref b, .ref c] ∧ BoxAt H b bx ∧ BoxAt H c cx ∧ cx.length = bx.length ∧ bx.length ≤ 4 ∧ (∀ k, k < bx.length → (bx.getD k (0, 0)).2 < (bx.getD k (0, 0)).1 + 2 ^ 129) ∧ ∀ H', Same H H' → Q (.int (prodI ((List.range bx.length).map fun k => ov (cx.getD k (0, 0)).1 (cx.getD k (0, 0)).2 (bx.getD k (0, 0)).1 (bx.getD k (0, 0)).2))) H'
theorem O_cells_met (T : Txt K mg) : Ok P w K mg base CX0 3 "cells_met" ["box", "node"] sp_cells_met :=
  Ok.mk0 T.f_cells_met T.g_cells_met sc_cells_met (by rintro vs H Q E ⟨_, _, _, _, rfl, _⟩; rfl) (fun _ _ _ _ _ _ us hl => match us, hl with | [_, _], _ => rfl) (fun f cdv A outer s H vs Q E hr h => by
    obtain ⟨b, c, bx, cx, rfl, hb, hc, hl, h4, h129, q⟩ := h
    refine ⟨_, (pss_cons (ps_set (i := 2) sc_cells_met.nd rfl (.inl rfl) (cal (O_met_box T) hr (pa_cons (pv 0) (pa_cons (pv 1) pa_nil))))
    (pss_one (ps_ret (pe_ifExp (pt_cmpR op_isN (pv 2) pe_non (nomark _)) pe_int (cal (O_cells_in T) hr (pa_cons (pv 2) pa_nil)))))), ?_⟩
    walk_at "vc"
    refine ⟨b, c, bx, cx, rfl, hb, hc, hl, h4, fun H1 s1 => ⟨fun h => ?_, fun r h hr => ?_⟩⟩
    · refine if_t (decide_eq_true rfl) ?_
      have := q H1 s1
      rw [met_cells, h] at this
      exact this
    · refine if_f (decide_eq_false (by simp)) ?_
      refine ⟨r, _, rfl, hr, by rw [metB_len]; exact h4, met_small h129 h, fun H2 s2 => ?_⟩
      have := q H2 (s1.trans s2)
      rw [met_cells, if_pos h] at this
      exact this)
def sp_require_three (K : PySem.W.Frag) : Sp := fun vs H Q _ => ∃ (x b : Addr) (l : List Nat) (n : Nat) (bx : List (Int × Int)) (key : Int), vs = [.ref x, .ref b, .int key] ∧ WOk l n ∧ shp K H x l n ∧ BoxAt H b bx ∧ BoxOk l n bx ∧ 0 ≤ key ∧ key < 2 ^ l.length ∧ ∀ H', Same H H' → Q .non H'
theorem O_require_three (T : Txt K mg) : Ok P w K mg base CX0 5 "require_three" ["weave", "box", "key"] (sp_require_three K) :=
  Ok.mk0 T.f_require_three T.g_require_three sc_require_three (by rintro vs H Q E ⟨_, _, _, _, _, _, rfl, _⟩; rfl) (fun _ _ _ _ _ _ us hl => match us, hl with | [_, _, _], _ => rfl) (fun f cdv A outer s H vs Q E hr h => by
    obtain ⟨x, b, l, n, bx, key, rfl, hW, hx, hb, hok, k0, k1, q⟩ := h
    refine ⟨_, (pss_cons (ps_expr (cal (O_require_weave T) hr (pa_cons (pv 0) pa_nil)))
    (pss_cons (ps_expr (cal (O_require_box T) hr (pa_cons (prO (O_Weave_shape T) T.k_Weave T.p_Weave_shape hr (pv 0)) (pa_cons (pv 1) pa_nil))))
    (pss_one (ps_expr (cal (O_require_key T) hr (pa_cons (prO (O_Weave_shape T) T.k_Weave T.p_Weave_shape hr (pv 0)) (pa_cons (pv 2) pa_nil))))))), ?_⟩
    walk_at "vc"
    refine ⟨x, l, n, rfl, hx, shape_do hx fun sh hs => ⟨sh, b, l, n, bx, rfl, hW.n4, hs, hb, hok, fun H1 s1 => shape_do (shp_same hx s1) fun sh hs => ⟨l, n, sh, key, rfl, hW, hs, k0, k1, q _ s1⟩⟩⟩)
def sp_rank (K : PySem.W.Frag) : Sp := fun vs H Q _ => ∃ (x b : Addr) (l : List Nat) (n : Nat) (bx : List (Int × Int)) (key : Int), vs = [.ref x, .ref b, .int key] ∧ WOk l n ∧ shp K H x l n ∧ BoxAt H b bx ∧ BoxOk l n bx ∧ 0 ≤ key ∧ key < 2 ^ l.length ∧ ∀ H', Same H H' → Q (.int (countK (inB l bx) 0 key.toNat)) H'
theorem O_rank (T : Txt K mg) : Ok P w K mg base CX0 6 "rank" ["weave", "box", "key"] (sp_rank K) :=
  Ok.mk0 T.f_rank T.g_rank sc_rank (by rintro vs H Q E ⟨_, _, _, _, _, _, rfl, _⟩; rfl) (fun _ _ _ _ _ _ us hl => match us, hl with | [_, _, _], _ => rfl) (fun f cdv A outer s H vs Q E hr h => by
    obtain ⟨x, b, l, n, bx, key, rfl, hW, hx, hb, hok, k0, k1, q⟩ := h
    refine ⟨_, (pss_cons (ps_expr (cal (O_require_three T) hr (pa_cons (pv 0) (pa_cons (pv 1) (pa_cons (pv 2) pa_nil)))))
    (pss_cons (ps_set (i := 3) sc_rank.nd rfl (.inl rfl) (cal (O_whole_box T) hr (pa_cons (prO (O_Weave_shape T) T.k_Weave T.p_Weave_shape hr (pv 0)) pa_nil)))
    (pss_cons (ps_set (i := 4) sc_rank.nd rfl (.inl rfl) pe_int)
    (pss_cons (ps_for PassesOwn.never rfl (piL K (cal (O_bits_of T) hr (pa_cons (prO (O_Weave_letters T) T.k_Weave T.p_Weave_letters hr (pv 0)) (pa_cons (pv 2) pa_nil)))) (pgTup K (n := 2) (pgs_cons (pg_name (i := 5) sc_rank.nd rfl (.inl rfl)) (pgs_cons (pg_name (i := 6) sc_rank.nd rfl (.inl rfl)) pgs_nil))) (pss_consB (ps_if (pt_cmpR op_eq (pv 6) pe_int (nomark _)) (pss_one (ps_set (i := 4) sc_rank.nd rfl (.inl rfl) (pe_op op_add (pv 4) (cal (O_cells_met T) hr (pa_cons (pv 1) (pa_cons (cal (O_half_of T) hr (pa_cons (pv 3) (pa_cons (pv 5) (pa_cons pe_int pa_nil)))) pa_nil)))))) pss_nil)
    (pss_one (ps_set (i := 3) sc_rank.nd rfl (.inl rfl) (cal (O_half_of T) hr (pa_cons (pv 3) (pa_cons (pv 5) (pa_cons (pv 6) pa_nil))))))))
    (pss_one (ps_ret (pv 4))))))), ?_⟩
    walk_at "vc"
    refine ⟨x, b, l, n, bx, key, rfl, hW, hx, hb, hok, k0, k1, fun H1 s1 => shape_do (shp_same hx s1) fun sh hs => ⟨sh, cnts l n, rfl, sqT_of hs, hW.sh, fun nd H2 s2 hnd => ?_⟩⟩
    have s12 := s1.trans s2
    refine letters_do (shp_same hx s12) ⟨l, key, rfl, hW.al, hW.le, fun D xs H3 s3 hD hxs => ⟨D, rfl, ⟨_, sqL_of hD⟩, ?_⟩⟩
    have s13 := s12.trans s3
    have hroot : (cnts l n).map (fun b => ((0 : Int), (2 : Int) ^ b.toNat - 1)) = nodeBx l n 0 (key / 2 ^ (l.length - 0)) := by
      have := nodeBx_root (l := l) (sh := cnts l n) (by rw [cnts_len])
      rw [this, cnts_len, Nat.sub_zero, Int.ediv_eq_zero_of_lt k0 k1]
    rw [hroot] at hnd
    have hxl : xs.length = l.length := by rw [hxs.1, List.length_map, List.length_range]
    have hrng : ∀ c ∈ l, 97 ≤ c ∧ c < 97 + bx.length := by rw [hok.len]; exact hW.rng
    have hle : ∀ k, k < bx.length → (bx.getD k (0, 0)).1 ≤ (bx.getD k (0, 0)).2 := by rw [hok.len]; exact hok.le
    refine loop_l (xs := xs) (fun j σ' H' => ∃ (nd : Addr) (y5 y6 : Option V), σ' = [some (.ref x), some (.ref b), some (.int key), some (.ref nd), some (.int (countK (inB l bx) 0 (key / 2 ^ (l.length - j) * 2 ^ (l.length - j)).toNat)), y5, y6] ∧ Same H3 H' ∧ BoxAt H' nd (nodeBx l n j (key / 2 ^ (l.length - j))))
      ⟨nd, none, none, by rw [Nat.sub_zero, Int.ediv_eq_zero_of_lt k0 k1, Int.zero_mul]; rfl, fun _ _ h => h, hnd.same s3⟩ (by rintro j σ' H' _ ⟨_, _, _, _, s, _⟩; exact sqL_of (s _ _ hD)) ?_ ?_
    · rintro j z σ' H4 hz ⟨nd, y5, y6, rfl, s4, hnd⟩
      have hj : j < l.length := by
        have := (List.getElem?_eq_some_iff.mp hz).1
        omega
      obtain ⟨q1, t, rfl, ht, hq1⟩ := (hxs.same s4).get hz
      rw [List.getElem?_map, List.getElem?_range hj] at ht
      cases ht
      obtain ⟨c1, c2⟩ := hW.rng (l.getD j 0) (by rw [List.getD_eq_getElem?_getD, List.getElem?_eq_getElem hj]; exact List.getElem_mem hj)
      have hb4 := hb.same (s13.trans s4)
      obtain ⟨d, hd⟩ : ∃ d, l.length - j = d + 1 := ⟨l.length - (j + 1), by omega⟩
      have hd2 : l.length - (j + 1) = d := by omega
      have hV := key_bit key d
      have hV0 : 0 ≤ key / 2 ^ (d + 1) := Int.ediv_nonneg k0 (Int.le_of_lt (pow_pos' _))
      have hbit : key / 2 ^ d % 2 = 0 ∨ key / 2 ^ d % 2 = 1 := by omega
      rw [hd] at hnd ⊢
      have hq1 : H4 q1 = some (.tup [.int ((l.getD j 0 - 97 : Nat) : Int), .int (key / 2 ^ (l.length - (j + 1)) % 2)]) := hq1
      rw [hd2] at hq1
      rw [hd2, hV]
      generalize hVV : key / 2 ^ (d + 1) = W at *
      generalize hBB : key / 2 ^ d % 2 = bit at *
      walk_at "vc"
      refine ⟨_, sqT_of hq1, rfl, _, _, rfl, _, _, rfl, rfl, ?_⟩
      walk_at "vc"
      refine seq_by (fun σ' H' => ∃ (y5 y6 : Option L2.V), σ' = [some (.ref x), some (.ref b), some (.int key), some (.ref nd), some (.int (countK (inB l bx) 0 ((2 * W + bit) * 2 ^ d).toNat)), some (.int ((l.getD j 0 - 97 : Nat) : Int)), some (.int bit)] ∧ Same H4 H') ?_ ?_
      · rintro σ' H5 ⟨y5, y6, rfl, s5⟩
        walk_at "vc"
        refine ⟨nd, _, _, bit, rfl, hnd.same s5, by rw [nodeBx_len]; omega, by rw [nodeBx_len]; exact hW.n4, fun r H6 s6 hr => ⟨r, rfl, (s4.trans s5).trans s6, ?_⟩⟩
        rw [nodeBx_half hW.rng hj hbit] at hr
        exact hr
      · intro k hk
        walk_at "vc"
        refine if_d (fun e => ?_) (fun e => ?_)
        · refine ⟨nd, _, _, 0, rfl, hnd, by rw [nodeBx_len]; omega, by rw [nodeBx_len]; exact hW.n4, fun r H6 s6 hr => ?_⟩
          rw [nodeBx_half hW.rng hj (.inl rfl)] at hr
          refine ⟨b, r, bx, _, rfl, hb4.same s6, hr, by rw [nodeBx_len, hok.len], by rw [hok.len]; exact hW.n4, hok.small hW, fun H7 s7 => ⟨_, rfl, hk _ _ ⟨none, none, ?_, s6.trans s7⟩⟩⟩
          rw [cells_node hok.len, cnt_count hrng hle d (j + 1) _ (by omega), Int.add_zero, count_up _ hV0, e]
        · have e0 : bit = 0 := by omega
          refine hk _ _ ⟨none, none, ?_, fun _ _ h => h⟩
          rw [e0, Int.add_zero, show W * 2 ^ (d + 1) = 2 * W * 2 ^ d by rw [Int.pow_succ, Int.mul_comm (2 ^ d) 2, ← Int.mul_assoc, Int.mul_comm W 2]]
    · rintro σ' H4 ⟨nd, y5, y6, rfl, s4, hnd⟩
      walk_at "vc"
      rw [hxl, Nat.sub_self, Int.pow_zero, Int.ediv_one, Int.mul_one]
      exact q _ (s13.trans s4))

end
section
variable {P : Program} {w : World} {K : PySem.W.Frag} {mg : Str → Option Value} {base : Heap}
def sp_require_index : Sp := fun vs H Q _ => ∃ i : Int, vs = [.int i] ∧ 0 ≤ i ∧ Q .non H
theorem O_require_index (T : Txt K mg) : Ok P w K mg base CX0 2 "require_index" ["value"] sp_require_index :=
  Ok.mk0 T.f_require_index T.g_require_index sc_require_index (by rintro vs H Q E ⟨_, rfl, _⟩; rfl) (fun _ _ _ _ _ _ us hl => match us, hl with | [_], _ => rfl) (fun f cdv A outer s H vs Q E hr h => by
    obtain ⟨i, rfl, h0, q⟩ := h
    refine ⟨_, (pss_one (ps_if (PW.pt (pw_or (pt_not (pt_val (cal (O_is_int T) hr (pa_cons (pv 0) pa_nil)))) (pw_or1 (pt_cmpR op_lt (pv 0) pe_int (nomark _))))) (pss_one ps_never) pss_nil)), ?_⟩
    walk_at "vc"
    exact ⟨i, rfl, _, rfl, if_f rfl (if_d (fun z => absurd z (by omega)) fun _ => q)⟩)

/-! ### the key with an index -/
theorem ov_in {M lo hi : Int} (h0 : 0 ≤ lo) (h1 : lo ≤ hi) (h2 : hi < M) : ov 0 (M - 1) lo hi = hi - lo + 1 := by
  unfold ov
  repeat' split
  all_goals omega
theorem box_total {l : List Nat} {n : Nat} {bx : List (Int × Int)} (hW : WOk l n) (hok : BoxOk l n bx) : prodI (bx.map fun p => p.2 - p.1 + 1) = countK (inB l bx) 0 (2 ^ l.length) := by
  have h := cnt_count (l := l) (bx := bx) (by rw [hok.len]; exact hW.rng) (by rw [hok.len]; exact hok.le) l.length 0 0 (by omega)
  rw [Int.zero_mul] at h
  rw [← h]
  unfold cntN
  have e : bx = (List.range bx.length).map fun k => bx.getD k (0, 0) := by
    apply List.ext_getElem?
    intro k
    by_cases hk : k < bx.length
    · rw [List.getElem?_map, List.getElem?_range hk, List.getElem?_eq_getElem hk, Option.map_some, List.getD_eq_getElem?_getD, List.getElem?_eq_getElem hk]
      rfl
    · rw [List.getElem?_eq_none (by omega), List.getElem?_eq_none (by rw [List.length_map, List.length_range]; omega)]
  conv => lhs; rw [e]
  rw [List.map_map]
  congr 1
  apply List.map_congr_left
  intro k hk
  have hk' : k < n := by rw [← hok.len]; exact List.mem_range.mp hk
  have h0 := hok.lo k hk'
  have h1 := hok.le k hk'
  have h2 := hok.hi k hk'
  have e1 : nlo l k 0 0 = 0 := by
    unfold nlo
    show (0 : Int) * _ = 0
    rw [Int.zero_mul]
  have e2 : nhi l k 0 0 = 2 ^ l.count (97 + k) - 1 := by
    unfold nhi
    rw [rm_zero]
    show ((0 : Int) + 1) * _ - 1 = _
    rw [Int.zero_add, Int.one_mul]
  rw [e1, e2]
  exact (ov_in h0 h1 h2).symm
def NthIs (l : List Nat) (bx : List (Int × Int)) (i : Int) (v : V) : Prop := (countK (inB l bx) 0 (2 ^ l.length) ≤ i ∧ v = .non) ∨ ∃ W : Int, 0 ≤ W ∧ W < 2 ^ l.length ∧ inB l bx W = true ∧ countK (inB l bx) 0 W.toNat = i ∧ v = .int W
def sp_nth_key (K : PySem.W.Frag) : Sp := fun vs H Q _ => ∃ (x b : Addr) (l : List Nat) (n : Nat) (bx : List (Int × Int)) (i : Int), vs = [.ref x, .ref b, .int i] ∧ WOk l n ∧ shp K H x l n ∧ BoxAt H b bx ∧ BoxOk l n bx ∧ 0 ≤ i ∧ ∀ v H', Same H H' → NthIs l bx i v → Q v H'
theorem O_nth_key (T : Txt K mg) : Ok P w K mg base CX0 6 "nth_key" ["weave", "box", "index"] (sp_nth_key K) :=
  Ok.mk0 T.f_nth_key T.g_nth_key sc_nth_key (by rintro vs H Q E ⟨_, _, _, _, _, _, rfl, _⟩; rfl) (fun _ _ _ _ _ _ us hl => match us, hl with | [_, _, _], _ => rfl) (fun f cdv A outer s H vs Q E hr h => by
    obtain ⟨x, b, l, n, bx, i0, rfl, hW, hx, hb, hok, i00, q⟩ := h
    refine ⟨_, (pss_cons (ps_expr (cal (O_require_weave T) hr (pa_cons (pv 0) pa_nil)))
    (pss_cons (ps_expr (cal (O_require_box T) hr (pa_cons (prO (O_Weave_shape T) T.k_Weave T.p_Weave_shape hr (pv 0)) (pa_cons (pv 1) pa_nil))))
    (pss_cons (ps_expr (cal (O_require_index T) hr (pa_cons (pv 2) pa_nil)))
    (pss_cons (ps_if (pt_cmpR op_ge (pv 2) (cal (O_cells_in T) hr (pa_cons (pv 1) pa_nil)) (nomark _)) (pss_one (ps_ret pe_non)) pss_nil)
    (pss_cons (ps_set (i := 3) sc_nth_key.nd rfl (.inl rfl) (cal (O_whole_box T) hr (pa_cons (prO (O_Weave_shape T) T.k_Weave T.p_Weave_shape hr (pv 0)) pa_nil)))
    (pss_cons (ps_set (i := 4) sc_nth_key.nd rfl (.inl rfl) pe_int)
    (pss_cons (ps_for PassesOwn.never rfl (pi_str (prO (O_Weave_letters T) T.k_Weave T.p_Weave_letters hr (pv 0))) (pg_name (i := 5) sc_nth_key.nd rfl (.inl rfl)) (pss_cons (ps_set (i := 6) sc_nth_key.nd rfl (.inl rfl) (bmK K PySem.F.plainAttrs_str PySem.F.slot_str_index PySem.F.type_str_index mt_sindex (pe_gstr T.c_AXES) (pa_cons (pv 5) pa_nil)))
    (pss_cons (ps_set (i := 7) sc_nth_key.nd rfl (.inl rfl) (cal (O_cells_met T) hr (pa_cons (pv 1) (pa_cons (cal (O_half_of T) hr (pa_cons (pv 3) (pa_cons (pv 6) (pa_cons pe_int pa_nil)))) pa_nil))))
    (pss_cons (ps_set (i := 8) sc_nth_key.nd rfl (.inl rfl) (pe_callTy intB (by rfl) T.n_int (by decide +kernel) (pa_cons (pe_cmpR op_ge (pv 2) (pv 7) (nomark _)) pa_nil)))
    (pss_cons (ps_set (i := 2) sc_nth_key.nd rfl (.inl rfl) (pe_op op_sub (pv 2) (pe_op op_mulX (pv 7) (pv 8))))
    (pss_cons (ps_set (i := 3) sc_nth_key.nd rfl (.inl rfl) (cal (O_half_of T) hr (pa_cons (pv 3) (pa_cons (pv 6) (pa_cons (pv 8) pa_nil)))))
    (pss_one (ps_set (i := 4) sc_nth_key.nd rfl (.inl rfl) (pe_op op_add (pe_op op_mulX (pv 4) pe_int) (pv 8))))))))))
    (pss_one (ps_ret (pv 4)))))))))), ?_⟩
    walk_at "vc"
    have hrng : ∀ c ∈ l, 97 ≤ c ∧ c < 97 + bx.length := by rw [hok.len]; exact hW.rng
    have hle : ∀ k, k < bx.length → (bx.getD k (0, 0)).1 ≤ (bx.getD k (0, 0)).2 := by rw [hok.len]; exact hok.le
    have h240 := hW.le
    refine ⟨x, l, n, rfl, hx, shape_do hx fun sh hs => ⟨sh, b, l, n, bx, rfl, hW.n4, hs, hb, hok, fun H1 s1 => ?_⟩⟩
    refine ⟨i0, rfl, i00, b, bx, rfl, hb.same s1, by rw [hok.len]; exact hW.n4, fun p hp => ?_, fun H2 s2 => ⟨_, rfl, ?_⟩⟩
    · obtain ⟨k, hk⟩ := List.mem_iff_getElem?.mp hp
      have hkl := (List.getElem?_eq_some_iff.mp hk).1
      have hg : bx.getD k (0, 0) = p := by rw [List.getD_eq_getElem?_getD, hk]; rfl
      have h1 := hle k hkl
      have h2 := hok.small hW k hkl
      rw [hg] at h1 h2
      exact ⟨by omega, h2⟩
    rw [box_total hW hok]
    have s12 := s1.trans s2
    refine if_d (fun e => q _ H2 s12 (.inl ⟨e, rfl⟩)) (fun e => ?_)
    refine shape_do (shp_same hx s12) fun sh hs => ⟨sh, cnts l n, rfl, sqT_of hs, hW.sh, fun nd H3 s3 hnd => letters_do (shp_same hx (s12.trans s3)) ⟨_, rfl, ?_⟩⟩
    have s13 := s12.trans s3
    have hroot : (cnts l n).map (fun b => ((0 : Int), (2 : Int) ^ b.toNat - 1)) = nodeBx l n 0 0 := by
      have := nodeBx_root (l := l) (sh := cnts l n) (by rw [cnts_len])
      rw [this, cnts_len]
    rw [hroot] at hnd
    have cntAll : ∀ (j : Nat) (W : Int), j ≤ l.length → cntN l bx j W = countK (inB l bx) (W * 2 ^ (l.length - j)) (2 ^ (l.length - j)) := fun j W hj => cnt_count hrng hle _ j W (by omega)
    refine loop_w walk_str (fun j σ' H' => ∃ (nd : Addr) (W i : Int) (y5 y6 y7 y8 : Option L2.V), σ' = [some (.ref x), some (.ref b), some (.int i), some (.ref nd), some (.int W), y5, y6, y7, y8] ∧ Same H3 H' ∧ BoxAt H' nd (nodeBx l n j W) ∧ 0 ≤ W ∧ W < 2 ^ j ∧ 0 ≤ i ∧ i < cntN l bx j W ∧ i0 = countK (inB l bx) 0 (W * 2 ^ (l.length - j)).toNat + i)
      ⟨nd, 0, i0, none, none, none, none, rfl, fun _ _ h => h, hnd, by decide, by decide, i00, ?_, ?_⟩ (fun _ _ _ _ _ => True.intro) ?_ ?_
    · rw [cntAll 0 0 (by omega), Int.zero_mul, Nat.sub_zero]
      omega
    · rw [Int.zero_mul]
      show i0 = 0 + i0
      omega
    · rintro j z σ' H4 H4' hi ⟨nd, W, i, y5, y6, y7, y8, rfl, s4, hnd, W0, W1, hi0, hi1, he⟩ ⟨rfl, c, hc, rfl⟩
      have hc' : l[j]? = some c := by
        have : (sg l).cps.toList[j]? = some c := by rw [Array.getElem?_toList]; exact hc
        rw [sg_cps] at this
        exact this
      have hj := (List.getElem?_eq_some_iff.mp hc').1
      obtain ⟨c1, c2⟩ := hW.rng c (List.mem_of_getElem? hc')
      have hn4 := hW.n4
      have hg : l.getD j 0 = c := by rw [List.getD_eq_getElem?_getD, hc']; rfl
      have hb4 := hb.same (s13.trans s4)
      have hsp := cnt_split (v := W) hrng hle hj
      obtain ⟨d, hd⟩ : ∃ d, l.length - j = d + 1 := ⟨l.length - (j + 1), by omega⟩
      have hd2 : l.length - (j + 1) = d := by omega
      have hm := cntAll (j + 1) (2 * W) hj
      rw [hd2] at hm
      have hm0 := countK_nn (inB l bx) (2 * W * 2 ^ d) (2 ^ d)
      have hm1 := countK_le (inB l bx) (2 * W * 2 ^ d) (2 ^ d)
      rw [← hm] at hm0 hm1
      have hup := count_up (inB l bx) (V := W) (d := d) W0
      rw [← hm] at hup
      rw [hd] at he
      walk_at "vc"
      refine ⟨c - 97, _, abcd_index c1 (by omega), nd, _, c - 97, 0, rfl, hnd, by rw [nodeBx_len]; omega, by rw [nodeBx_len]; exact hn4, fun r H5 s5 hr => ?_⟩
      have hr0 := nodeBx_half (v := W) (b := 0) hW.rng hj (.inl rfl)
      rw [hg] at hr0
      rw [hr0] at hr
      refine ⟨b, r, bx, _, rfl, hb4.same s5, hr, by rw [nodeBx_len, hok.len], by rw [hok.len]; exact hn4, hok.small hW, fun H6 s6 => ?_⟩
      rw [cells_node hok.len, Int.add_zero]
      generalize hM : cntN l bx (j + 1) (2 * W) = M at *
      refine ⟨M, rfl, M, rfl, ?_⟩
      have hbit : ((if decide (M ≤ i) = true then (1 : Int) else 0) = 1 ∧ M ≤ i) ∨ ((if decide (M ≤ i) = true then (1 : Int) else 0) = 0 ∧ i < M) := by
        by_cases h : M ≤ i
        · exact .inl ⟨by rw [decide_eq_true h]; rfl, h⟩
        · exact .inr ⟨by rw [decide_eq_false h]; rfl, by omega⟩
      generalize (if decide (M ≤ i) = true then (1 : Int) else 0) = bit at *
      have hM2 : M < 2 ^ (d + 1) := by
        rw [Int.pow_succ]
        have := pow_pos' d
        have e : (((2 : Nat) ^ d : Nat) : Int) = 2 ^ d := (pow_nat d).symm
        omega
      have hr1 := nodeBx_half (v := W) (b := bit) hW.rng hj (by omega)
      rw [hg] at hr1
      refine ⟨mulx_of (a := 241) (b := 2) hm0 (lt_pow hM2 (by omega)) (by omega) (by omega) (by decide), nd, _, c - 97, bit, rfl, (hnd.same s5).same s6, by rw [nodeBx_len]; omega, by rw [nodeBx_len]; exact hn4, fun r2 H7 s7 hr2 => ?_⟩
      rw [hr1] at hr2
      rw [Int.mul_comm W 2, hd2]
      refine ⟨mulx_of (a := 240) (b := 2) W0 (lt_pow W1 (by omega)) (by decide) (by decide) (by decide), r2, rfl, ((s4.trans s5).trans s6).trans s7, hr2, by omega, by rw [Int.pow_succ]; omega, ?_⟩
      rcases hbit with ⟨rfl, hb⟩ | ⟨rfl, hb⟩
      · rw [Int.mul_one]
        refine ⟨by omega, by omega, ?_⟩
        omega
      · rw [Int.mul_zero, Int.add_zero, Int.sub_zero, hM]
        refine ⟨hi0, hb, ?_⟩
        rw [he]
        congr 3
        rw [Int.pow_succ, Int.mul_comm (2 ^ d) 2, ← Int.mul_assoc, Int.mul_comm W 2]
    · rintro σ' H4 ⟨nd, W, i, y5, y6, y7, y8, rfl, s4, hnd, W0, W1, hi0, hi1, he⟩
      walk_at "vc"
      rw [show (sg l).cps.size = l.length from sg_len l] at hi1 he W1
      rw [cnt_leaf l bx W hle] at hi1
      rw [Nat.sub_self, Int.pow_zero, Int.mul_one] at he
      have hin : inB l bx W = true := by
        cases h : inB l bx W with
        | true => rfl
        | false =>
          rw [h, if_neg (by decide)] at hi1
          omega
      rw [hin, if_pos rfl] at hi1
      exact q _ H4 (s13.trans s4) (.inr ⟨W, W0, W1, hin, by omega, rfl⟩))

end
section
variable {P : Program} {w : World} {K : PySem.W.Frag} {mg : Str → Option Value} {base : Heap}
def sp__law_shape : Sp := fun vs H Q _ => ∃ (a : Addr) (m : Int) (n : Nat), vs = [.ref a, .int m] ∧ Br a n H ∧ n ≤ 2 ^ 58 ∧ 1 ≤ m ∧ m ≤ 240 ∧ ∀ p sh H', But a H H' → Br a (n + 100) H' → H p = none → H' p = some (.tup (sh.map V.int)) → ShOk sh → sh.sum ≤ m → Q (.ref p) H'
theorem O__law_shape (T : Txt K mg) : Ok P w K mg base CX0 3 "_law_shape" ["_law_brook_here", "_law_most"] sp__law_shape :=
  Ok.mk0 T.f__law_shape T.g__law_shape sc__law_shape (by rintro vs H Q E ⟨_, _, _, rfl, _⟩; rfl) (fun _ _ _ _ _ _ us hl => match us, hl with | [_, _], _ => rfl) (fun f cdv A outer s H vs Q E hr h => by
    obtain ⟨a, m, n, rfl, hB, hn, m0, m1, q⟩ := h
    refine ⟨_, (pss_cons (ps_par (i := 2) (j := 3) rfl sc__law_shape.nd rfl rfl (by decide) rfl rfl (pa_cons (pe_op op_add pe_int (cal (O__law_dip T) hr (pa_cons (pv 0) (pa_cons (pe_callB min2 (by rfl) T.n_min (by decide +kernel) (pa_cons pe_int (pa_cons (pv 1) pa_nil))) pa_nil)))) (pa_cons (pe_lst pa_nil) pa_nil)) (by rfl))
    (pss_cons (ps_for PassesOwn.never rfl (pi_range1 (by rfl) T.n_range (pa_cons (pv 2) pa_nil)) (pg_name (i := 4) sc__law_shape.nd rfl (.inl rfl)) (pss_cons (ps_set (i := 5) sc__law_shape.nd rfl (.inl rfl) (pe_op op_sub (pe_op op_sub (pv 1) (pe_callB (sumL K) (by rfl) T.n_sum (by decide +kernel) (pa_cons (pv 3) pa_nil))) (pe_op op_sub (pe_op op_sub (pv 2) (pv 4)) pe_int)))
    (pss_one (ps_expr (bmK K PySem.F.plainAttrs_list PySem.F.slot_list_append PySem.F.type_list_append mt_append (pv 3) (pa_cons (pe_op op_add pe_int (cal (O__law_dip T) hr (pa_cons (pv 0) (pa_cons (pe_callB min2 (by rfl) T.n_min (by decide +kernel) (pa_cons (pv 5) (pa_cons pe_int pa_nil))) pa_nil)))) pa_nil))))))
    (pss_one (ps_ret (pe_callTy (tupleOf K) (by rfl) T.n_tuple (by decide +kernel) (pa_cons (pv 3) pa_nil)))))), ?_⟩
    walk_at "vc"
    refine dip_do hB (by omega) (by split <;> omega) (small1000' (by split <;> omega)) fun x o x0 x1 hB3 => ⟨x, rfl, Nat.zero_le _, fun F nF => ⟨by omega, by split at x1 <;> omega, ?_⟩⟩
    have nF0 : H F = none := none_of nF
    have nFa : F ≠ a := (Br.put (a := a) (H := H) hB3).apart nF
    have x2 : 1 + x ≤ 4 ∧ 1 + x ≤ m := by split at x1 <;> omega
    have eA : (((1 + x).toNat : Nat) : Int) = 1 + x := by omega
    refine loop_r0 (fun i σ' H' => ∃ (fs : List Int) (y4 y5 : Option V), σ' = [some (.ref a), some (.int m), some (.int (1 + x)), some (.ref F), y4, y5] ∧ But a H H' ∧ Br a (n + 20 + 20 * i) H' ∧ H' F = some (.lst (fs.map V.int)) ∧ fs.length = i ∧ (∀ b ∈ fs, 1 ≤ b ∧ b ≤ 120) ∧ fs.sum + (1 + x - i) ≤ m)
      ⟨[], none, none, rfl, But.refl.at.new nF, (Br.put hB3).new nF, upd_same, rfl, (fun b hb => by cases hb), (by show (0 : Int) + _ ≤ _; omega)⟩ ?_ ?_
    · rintro i σ' H1 hi ⟨fs, y4, y5, rfl, b1, B1, hF, hl, hb, hs⟩
      walk_at "vc"
      have hi2 : (i : Int) < 1 + x := by omega
      refine ⟨F, fs, rfl, sqL_of hF, _, rfl, tyv_l hF, dip_do B1 (by omega) (by split <;> omega) (small1000' (by split <;> omega)) fun y o2 y0 y1 hB2 => ⟨y, rfl, _, upd_at nFa hF, lt_size (by rw [List.length_map]; omega), b1.at.mine nF0, ((Br.put hB2).at nFa).mono (by omega), fs ++ [1 + y], by rw [upd_same, List.map_append]; rfl, by rw [List.length_append, hl]; rfl, fun b hb2 => ?_, ?_⟩⟩
      · rcases List.mem_append.mp hb2 with h | h
        · exact hb b h
        · rw [List.mem_singleton.mp h]
          split at y1 <;> omega
      · rw [List.sum_append, List.sum_singleton]
        split at y1 <;> omega
    · rintro σ' H1 ⟨fs, y4, y5, rfl, b1, B1, hF, hl, hb, hs⟩
      walk_at "vc"
      refine ⟨_, sqL_of hF, fun p np => q p fs _ (b1.new np) ((B1.new np).mono (by omega)) (b1.fresh (B1.apart np) np) upd_same ⟨by omega, by omega, hb, by omega⟩ (by omega)⟩)

def sp__law_letters (K : PySem.W.Frag) : Sp := fun vs H Q _ => ∃ (a p : Addr) (sh : List Int) (n : Nat), vs = [.ref a, .ref p] ∧ Br a n H ∧ n ≤ 2 ^ 58 ∧ ShOk sh ∧ SqT K H p (sh.map V.int) ∧ ∀ l H', But a H H' → Br a (n + 6000) H' → WOk l sh.length → cnts l sh.length = sh → Q (.str (sg l)) H'
theorem O__law_letters (T : Txt K mg) : Ok P w K mg base CX0 3 "_law_letters" ["_law_brook_here", "_law_shape_here"] (sp__law_letters K) :=
  Ok.mk0 T.f__law_letters T.g__law_letters sc__law_letters (by rintro vs H Q E ⟨_, _, _, _, rfl, _⟩; rfl) (fun _ _ _ _ _ _ us hl => match us, hl with | [_, _], _ => rfl) (fun f cdv A outer s H vs Q E hr h => by
    obtain ⟨a, p, sh, n, rfl, hB, hn, hsh, hp, q⟩ := h
    refine ⟨_, (pss_cons (ps_par (i := 2) (j := 3) rfl sc__law_letters.nd rfl rfl (by decide) rfl rfl (pa_cons (pe_callTy (listOf K) (by rfl) T.n_list (by decide +kernel) (pa_cons (pv 1) pa_nil)) (pa_cons pe_str pa_nil)) (by rfl))
    (pss_cons (ps_par (i := 4) (j := 5) rfl sc__law_letters.nd rfl rfl (by decide) rfl rfl (pa_cons (cal (O__law_dip T) hr (pa_cons (pv 0) (pa_cons pe_int pa_nil))) (pa_cons (cal (O__law_dip T) hr (pa_cons (pv 0) (pa_cons (pe_callB (lenU K) (by rfl) T.n_len (by decide +kernel) (pa_cons (pv 1) pa_nil)) pa_nil))) pa_nil)) (by rfl))
    (pss_cons (ps_for PassesOwn.never rfl (pi_range1 (by rfl) T.n_range (pa_cons (pe_callB (sumT K) (by rfl) T.n_sum (by decide +kernel) (pa_cons (pv 1) pa_nil)) pa_nil)) (pg_name (i := 6) sc__law_letters.nd rfl (.inl rfl)) (pss_consB (ps_if (PW.pt (pw_and (pt_cmpR op_eq (pv 4) pe_int (nomark _)) (pw_and1 (pt_cmpR op_gt (pe_ix (ixL K) (pv 2) (pv 5) (fun _ _ => rfl)) pe_int (nomark _))))) (pss_one (ps_set (i := 5) sc__law_letters.nd rfl (.inl rfl) (pe_op op_add (pv 5) pe_int))) (pss_one (ps_if (pt_cmpR op_eq (pv 4) pe_int (nomark _)) (pss_one (ps_set (i := 5) sc__law_letters.nd rfl (.inl rfl) (pe_op op_mod (pe_op op_add (pv 5) pe_int) (pe_callB (lenU K) (by rfl) T.n_len (by decide +kernel) (pa_cons (pv 2) pa_nil))))) (pss_one (ps_set (i := 5) sc__law_letters.nd rfl (.inl rfl) (cal (O__law_dip T) hr (pa_cons (pv 0) (pa_cons (pe_callB (lenU K) (by rfl) T.n_len (by decide +kernel) (pa_cons (pv 2) pa_nil)) pa_nil))))))))
    (pss_cons (ps_while PassesOwn.never (pt_cmpR op_eq (pe_ix (ixL K) (pv 2) (pv 5) (fun _ _ => rfl)) pe_int (nomark _)) (pss_one (ps_set (i := 5) sc__law_letters.nd rfl (.inl rfl) (pe_op op_mod (pe_op op_add (pv 5) pe_int) (pe_callB (lenU K) (by rfl) T.n_len (by decide +kernel) (pa_cons (pv 2) pa_nil))))))
    (pss_cons (ps_set (i := 3) sc__law_letters.nd rfl (.inl rfl) (pe_op op_add_str (pv 3) (pe_ix ix_str pe_str (pv 5) (fun _ _ => rfl))))
    (pss_one (ps_asg (pe_op op_sub (pe_ix (ixL K) (pv 2) (pv 5) (fun _ _ => rfl)) pe_int) (pg_sub (pv 2) (pv 5) set_list)))))))
    (pss_one (ps_ret (pv 3)))))), ?_⟩
    walk_at "vc"
    refine ⟨sh.map V.int, .inr hp, fun L nL => dip_do (hB.new nL) (by omega) (by decide) (small1000' (by decide)) fun w1 o1 w10 w11 hB1 => ⟨_, .inr ⟨_, hB.keepT (But.refl.new nL).at hp, rfl⟩, ?_⟩⟩
    rw [List.length_map]
    have hs1 := hsh.n1
    have hs4 := hsh.n4
    refine dip_do (Br.put hB1) (by omega) (by omega) (small1000' (by omega)) fun ax o2 ax0 ax1 hB2 => ⟨sh, hB.keepT (But.refl.new nL).at.at hp, ?_⟩
    have hsm := hsh.sm
    have hs0 := sumNN sh fun b hb => by have := (hsh.bt b hb).1; omega
    refine ⟨by omega, by omega, ?_⟩
    have nLa : L ≠ a := hB.apart nL
    refine loop_r0 (fun i σ' H' => ∃ (l : List Nat) (x : Nat) (y6 : Option V), σ' = [some (.ref a), some (.ref p), some (.ref L), some (.str (sg l)), some (.int w1), some (.int (x : Int)), y6] ∧ x < sh.length ∧ But a H H' ∧ Br a (n + 40 + 20 * i) H' ∧ H' L = some (.lst ((lft sh l).map V.int)) ∧ l.length = i ∧ (∀ c ∈ l, 97 ≤ c ∧ c < 97 + sh.length) ∧ (∀ k, k < sh.length → 0 ≤ (lft sh l).getD k 0))
      ⟨[], ax.toNat, none, by rw [show ((ax.toNat : Nat) : Int) = ax by omega]; rfl, by omega, ((But.refl.new nL).at).at, Br.put hB2, by rw [lft_nil]; exact upd_at nLa (upd_at nLa upd_same), rfl, (fun c hc => by cases hc), (fun k hk => by rw [lft_nil]; have := (hsh.at hk).1; omega)⟩ ?_ ?_
    · rintro i σ' H1 hi ⟨l, x, y6, rfl, hx, b1, B1, hL, hl, ha, h0⟩
      walk_at "vc"
      refine seq_by (fun σ' H' => ∃ x : Nat, x < sh.length ∧ σ' = [some (.ref a), some (.ref p), some (.ref L), some (.str (sg l)), some (.int w1), some (.int (x : Int)), some (.int (i : Int))] ∧ But a H H' ∧ Br a (n + 60 + 20 * i) H' ∧ H' L = some (.lst ((lft sh l).map V.int))) ?_ ?_
      · rintro σ' H2 ⟨x, hx, rfl, b2, B2, hL2⟩
        walk_at "vc"
        have hsl := lft_sum ha
        obtain ⟨kk, hk1, hk2⟩ := sum_pos_ex (lft sh l) (fun z hz => by
          obtain ⟨j, hj, rfl⟩ := memG hz
          exact h0 j (by rw [lft_len] at hj; exact hj)) (by omega)
        rw [lft_len] at hk1
        refine ⟨fun m σ' H' => ∃ x : Nat, x < sh.length ∧ σ' = [some (.ref a), some (.ref p), some (.ref L), some (.str (sg l)), some (.int w1), some (.int (x : Int)), some (.int (i : Int))] ∧ H' = H2 ∧ (lft sh l).getD ((x + m) % sh.length) 0 ≠ 0,
          ⟨kk + sh.length - x, x, hx, rfl, rfl, by rw [show x + (kk + sh.length - x) = kk + sh.length by omega, Nat.add_mod_right, Nat.mod_eq_of_lt hk1]; omega⟩, ?_⟩
        rintro m σ' H' ⟨x, hx, rfl, rfl, hm⟩
        walk_at "vc"
        refine ⟨_, sqL_of hL2, _, at_nat rfl (ints_at (by rw [lft_len]; exact hx)), rfl, if_d (fun e => ?_) (fun e => ?_)⟩
        · have e0 := V.int.inj e
          have m0 : m ≠ 0 := fun z => hm (by rw [z, Nat.add_zero, Nat.mod_eq_of_lt hx]; exact e0)
          refine ⟨_, fun _ _ h => h, _, .inl ⟨_, sqL_of hL2, rfl⟩, by rw [List.length_map, lft_len]; omega, m - 1, by omega, (x + 1) % sh.length, Nat.mod_lt _ (by omega), by rw [List.length_map, lft_len]; rfl, rfl, ?_⟩
          rw [Nat.mod_add_mod, show x + 1 + (m - 1) = x + m by omega]
          exact hm
        · have hx0 : (lft sh l).getD x 0 ≠ 0 := fun z => e (by rw [z])
          have hx1 := h0 x hx
          have ix : ixN ((lft sh l).map V.int).length (x : Int) = some x := by
            unfold ixN
            rw [List.length_map, lft_len, if_pos (by omega), if_pos (by omega), Int.toNat_natCast]
          have sz : (sg l).length + 1 ≤ sizeLine := le_size (by rw [sg_len]; omega)
          refine ⟨le_size (by decide), _, at_nat rfl (by rw [Array.getElem?_toList]; exact abcd_get (by omega)), sz, _, sqL_of hL2, _, at_nat rfl (ints_at (by rw [lft_len]; exact hx)), _, rfl, _, hL2, _, ix, l ++ [97 + x], sg_app _ _, x, rfl, hx, b2.mine nL, (B2.at nLa).mono (by omega), by rw [upd_same, lft_snoc hx, List.map_set], by rw [List.length_append, hl]; rfl, fun c hc => ?_, fun k hk => ?_⟩
          · rcases List.mem_append.mp hc with h | h
            · exact ha c h
            · rw [List.mem_singleton.mp h]
              omega
          · rw [lft_snoc hx]
            by_cases ek : k = x
            · rw [ek, List.getD_eq_getElem?_getD, List.getElem?_set_self (by rw [lft_len]; exact hx)]
              show 0 ≤ (lft sh l).getD x 0 - 1
              omega
            · rw [List.getD_eq_getElem?_getD, List.getElem?_set_ne (Ne.symm ek), ← List.getD_eq_getElem?_getD]
              exact h0 k hk
      · intro k hk
        walk_at "vc"
        have way1 : ∃ x_1, ((∃ xs, SqL K H1 L xs ∧ x_1 = xs.length) ∨ ∃ xs, SqT K H1 L xs ∧ x_1 = xs.length) ∧ 0 < (x_1 : Int) ∧ k [some (V.ref a), some (V.ref p), some (V.ref L), some (V.str (sg l)), some (V.int w1), some (V.int (((x : Int) + 1) % (x_1 : Int))), some (V.int (i : Int))] H1 := by
          refine ⟨_, .inl ⟨_, sqL_of hL, rfl⟩, by rw [List.length_map, lft_len]; omega, ?_⟩
          rw [List.length_map, lft_len]
          exact hk _ _ ⟨(x + 1) % sh.length, Nat.mod_lt _ (by omega), rfl, b1, B1.mono (by omega), hL⟩
        have way2 : ∃ x, ((∃ xs, SqL K H1 L xs ∧ x = xs.length) ∨ ∃ xs, SqT K H1 L xs ∧ x = xs.length) ∧ sp__law_dip [V.ref a, V.int (x : Int)] H1 (fun x H1 => k [some (V.ref a), some (V.ref p), some (V.ref L), some (V.str (sg l)), some (V.int w1), some x, some (V.int (i : Int))] H1) E0 := by
          refine ⟨_, .inl ⟨_, sqL_of hL, rfl⟩, ?_⟩
          rw [List.length_map, lft_len]
          exact dip_do B1 (by omega) (by omega) (small1000' (by omega)) fun y o3 y0 y1 hB3 => hk _ _ ⟨y.toNat, by omega, by rw [show ((y.toNat : Nat) : Int) = y by omega], b1.at, (Br.put hB3).mono (by omega), upd_at nLa hL⟩
        refine if_d (fun e => ⟨_, sqL_of hL, _, at_nat rfl (ints_at (by rw [lft_len]; exact hx)), _, rfl, if_d (fun _ => ?_) (fun _ => if_d (fun _ => way1) fun _ => way2)⟩) (fun _ => if_d (fun _ => way1) fun _ => way2)
        rw [Int.add_zero]
        exact hk _ _ ⟨x, hx, rfl, b1, B1.mono (by omega), hL⟩
    · rintro σ' H1 ⟨l, x, y6, rfl, hx, b1, B1, hL, hl, ha, h0⟩
      walk_at "vc"
      have e := lft_done hsh ha (by rw [hl]; omega) h0
      exact q l H1 b1 (B1.mono (by omega)) e.1 e.2)

/-! ### a stretch drawn -/
def sp__law_stretch : Sp := fun vs H Q _ => ∃ (a : Addr) (bits n : Nat), vs = [.ref a, .int (bits : Int)] ∧ Br a n H ∧ n ≤ 2 ^ 58 ∧ 1 ≤ bits ∧ bits ≤ 240 ∧
  ∀ (p : Addr) (lo hi : Int) (H' : Hp), 0 ≤ lo → lo ≤ hi → hi < 2 ^ bits → But a H H' → Br a (n + 100) H' → H p = none → H' p = some (.tup [.int lo, .int hi]) → Q (.ref p) H'
theorem O__law_stretch (T : Txt K mg) : Ok P w K mg base CX0 3 "_law_stretch" ["_law_brook_here", "_law_bits"] sp__law_stretch :=
  Ok.mk0 T.f__law_stretch T.g__law_stretch sc__law_stretch (by rintro vs H Q E ⟨s, ns, k, rfl, _⟩; rfl) (fun _ _ _ _ _ _ us hl => match us, hl with | [_, _], _ => rfl) (fun f cdv A outer s H vs Q E hr h => by
    obtain ⟨a, bits, n, rfl, hB, hn, b0, b1, q⟩ := h
    refine ⟨_, (pss_cons (ps_par (i := 2) (j := 3) rfl sc__law_stretch.nd rfl rfl (by decide) rfl rfl (pa_cons (pe_op op_sub (pe_op op_oneShl pe_int (pv 1)) pe_int) (pa_cons (cal (O__law_dip T) hr (pa_cons (pv 0) (pa_cons pe_int pa_nil))) pa_nil)) (by rfl))
    (pss_cons (ps_set (i := 4) sc__law_stretch.nd rfl (.inl rfl) (pe_ix (ixL K) (pe_lst (pa_cons pe_int (pa_cons (pv 2) (pa_cons (cal (O__law_dip T) hr (pa_cons (pv 0) (pa_cons (pe_op op_add (pv 2) pe_int) pa_nil))) pa_nil)))) (cal (O__law_dip T) hr (pa_cons (pv 0) (pa_cons pe_int pa_nil))) (fun _ _ => rfl)))
    (pss_cons (ps_if (pt_cmpR op_lt (pv 3) pe_int (nomark _)) (pss_one (ps_ret (pe_ifExp (pt_cmpR op_eq (pv 3) pe_int (nomark _)) (pe_tup (pa_cons pe_int (pa_cons (pv 2) pa_nil))) (pe_tup (pa_cons (pv 4) (pa_cons (pv 4) pa_nil)))))) pss_nil)
    (pss_cons (ps_if (pt_cmpR op_eq (pv 3) pe_int (nomark _)) (pss_cons (ps_set (i := 5) sc__law_stretch.nd rfl (.inl rfl) (pe_op op_oneShl pe_int (cal (O__law_dip T) hr (pa_cons (pv 0) (pa_cons (pe_op op_add (pv 1) pe_int) pa_nil)))))
    (pss_cons (ps_set (i := 6) sc__law_stretch.nd rfl (.inl rfl) (pe_op op_mulX (pe_op op_fdivW (pv 4) (pv 5)) (pv 5)))
    (pss_one (ps_ret (pe_tup (pa_cons (pv 6) (pa_cons (pe_op op_sub (pe_op op_add (pv 6) (pv 5)) pe_int) pa_nil))))))) pss_nil)
    (pss_cons (ps_if (pt_cmpR op_eq (pv 3) pe_int (nomark _)) (pss_one (ps_ret (pe_ix (ixL K) (pe_lst (pa_cons (pe_tup (pa_cons pe_int (pa_cons (pe_op op_sub (pv 2) (pe_callB min2 (by rfl) T.n_min (by decide +kernel) (pa_cons (pv 2) (pa_cons pe_int pa_nil)))) pa_nil))) (pa_cons (pe_tup (pa_cons (pe_callB min2 (by rfl) T.n_min (by decide +kernel) (pa_cons pe_int (pa_cons (pv 2) pa_nil))) (pa_cons (pv 2) pa_nil))) pa_nil))) (cal (O__law_dip T) hr (pa_cons (pv 0) (pa_cons pe_int pa_nil))) (fun _ _ => rfl)))) pss_nil)
    (pss_cons (ps_set (i := 7) sc__law_stretch.nd rfl (.inl rfl) (pe_op op_add (pv 4) (cal (O__law_dip T) hr (pa_cons (pv 0) (pa_cons (pe_op op_add (pe_op op_sub (pv 2) (pv 4)) pe_int) pa_nil)))))
    (pss_one (ps_ret (pe_tup (pa_cons (pe_callB min2 (by rfl) T.n_min (by decide +kernel) (pa_cons (pv 4) (pa_cons (pv 7) pa_nil))) (pa_cons (pv 7) pa_nil))))))))))), ?_⟩
    walk_at "vc"
    have p58 : (2 : Nat) ^ 58 = 288230376151711744 := by decide
    have p59 : (2 : Nat) ^ 59 = 576460752303423488 := by decide
    have tb := pow_pos' bits
    have tb2 : (2 : Int) ≤ 2 ^ bits := pow_le (a := 1) b0
    refine ⟨bits, rfl, by omega, dip_do hB (by omega) (by decide) (small1000' (by decide)) fun way o1 w0 w1 hB1 => ?_⟩
    refine dip_do (n := n + 20) (Br.put hB1) (by omega) (by omega) (lt1000 (k := 241) (by have := pow_le (a := bits + 1) (b := 241) (by omega); rw [Int.pow_succ] at this; omega) (by decide)) fun d o2 d0 d1 hB2 => ⟨le_size (by decide), fun p np => ?_⟩
    rw [upd_upd] at np ⊢
    have bH : But a H (upd H a o2) := But.refl.at
    have npa : p ≠ a := fun e => by
      rw [e, upd_same] at np
      cases np
    refine dip_do (n := n + 20 + 20) ((Br.put hB2).new np) (by omega) (by decide) (small1000' (by decide)) fun c o3 c0 c1 hB3 => ?_
    walk_at "vc"
    have hone : ∃ one : Int, 0 ≤ one ∧ one ≤ 2 ^ bits - 1 ∧ atI [V.int 0, V.int (2 ^ bits - 1), V.int d] c = some (V.int one) := by
      rcases (show c = 0 ∨ c = 1 ∨ c = 2 by omega) with e | e | e
      · exact ⟨0, by omega, by omega, by rw [e]; rfl⟩
      · exact ⟨_, by omega, Int.le_refl _, by rw [e]; rfl⟩
      · exact ⟨d, by omega, by omega, by rw [e]; rfl⟩
    obtain ⟨one, n0, n1, hat⟩ := hone
    have B3 : Br a (n + 60) (upd (upd (upd H a o2) p (.lst [.int 0, .int (2 ^ bits - 1), .int d])) a o3) := (Br.put hB3).mono (by omega)
    have b3 : But a H (upd (upd (upd H a o2) p (.lst [.int 0, .int (2 ^ bits - 1), .int d])) a o3) := (bH.new np).at
    refine ⟨_, sqL_of (by rw [upd_ne npa]; exact upd_same), _, hat, ?_⟩
    generalize upd (upd (upd H a o2) p (.lst [.int 0, .int (2 ^ bits - 1), .int d])) a o3 = H3 at b3 B3
    have fin : ∀ (q4 : Addr) (lo hi : Int) (H4 : Hp), H4 q4 = none → But a H H4 → Br a (n + 100) H4 → 0 ≤ lo → lo ≤ hi → hi < 2 ^ bits → Q (.ref q4) (upd H4 q4 (.tup [.int lo, .int hi])) := fun q4 lo hi H4 n4 b4 B4 l0 l1 l2 => by
      have ne4 : q4 ≠ a := fun e => by
        obtain ⟨o, h, _⟩ := B4
        rw [← e, n4] at h
        cases h
      exact q q4 lo hi _ l0 l1 l2 (b4.new n4) (B4.new n4) (b4.fresh ne4 n4) upd_same
    refine if_d (fun e => ?_) (fun e => ?_)
    · refine if_d (fun e => ?_) (fun e => ?_)
      · exact ⟨le_size (by decide), fun q4 n4 => fin q4 _ _ _ n4 b3 (B3.mono (by omega)) (Int.le_refl _) (by omega) (by omega)⟩
      · exact ⟨le_size (by decide), fun q4 n4 => fin q4 _ _ _ n4 b3 (B3.mono (by omega)) n0 (Int.le_refl _) (by omega)⟩
    refine if_d (fun e => ?_) (fun e => ?_)
    · refine dip_do (n := n + 60) B3 (by omega) (by omega) (small1000' (by omega)) fun h o4 h0 h1 hB4 => ?_
      have hk : h.toNat ≤ bits := by omega
      have eh : h = (h.toNat : Int) := by omega
      have P := pow_pos' h.toNat
      have P2 : (2 : Int) ^ h.toNat ≤ 2 ^ bits := pow_le hk
      have e0 : one / 2 ^ h.toNat * 2 ^ h.toNat ≤ one := Int.ediv_mul_le _ (by omega)
      have e1 : 0 ≤ one / 2 ^ h.toNat := Int.ediv_nonneg n0 (by omega)
      have e1' : one / 2 ^ h.toNat ≤ one := Int.ediv_le_self _ n0
      have e2 : 0 ≤ one / 2 ^ h.toNat * 2 ^ h.toNat := Int.mul_nonneg e1 (by omega)
      have e3 : one / 2 ^ h.toNat * 2 ^ h.toNat + 2 ^ h.toNat ≤ 2 ^ bits := by
        have hs : (2 : Int) ^ bits = 2 ^ (bits - h.toNat) * 2 ^ h.toNat := by rw [← Int.pow_add, Nat.sub_add_cancel hk]
        have hd : one / 2 ^ h.toNat < 2 ^ (bits - h.toNat) := (Int.ediv_lt_iff_lt_mul P).mpr (by rw [← hs]; omega)
        have hm := Int.mul_le_mul_of_nonneg_right (show one / 2 ^ h.toNat + 1 ≤ 2 ^ (bits - h.toNat) by omega) (show (0 : Int) ≤ 2 ^ h.toNat by omega)
        rw [← hs, Int.add_mul, Int.one_mul] at hm
        exact hm
      refine ⟨h.toNat, by rw [← eh], by omega, one, rfl, cdiv_pow (by omega), mulx_of (a := bits) (b := bits + 1) e1 (by omega) (by omega) (by rw [Int.pow_succ]; omega) (by omega), le_size (by decide), fun q4 n4 => ?_⟩
      exact fin q4 _ _ _ n4 b3.at ((Br.put hB4).mono (by omega)) e2 (by omega) (by omega)
    refine if_d (fun e => ?_) (fun e => ?_)
    · refine ⟨le_size (by decide), fun p1 n1 => ⟨le_size (by decide), fun p2 n2 => ⟨le_size (by decide), fun p3 n3 => ?_⟩⟩⟩
      have fin2 : ∀ (q4 : Addr) (lo hi : Int) (H4 : Hp), H4 q4 = some (.tup [.int lo, .int hi]) → H3 q4 = none → But a H H4 → Br a (n + 100) H4 → 0 ≤ lo → lo ≤ hi → hi < 2 ^ bits → Q (.ref q4) H4 := fun q4 lo hi H4 h4 n4 b4 B4 l0 l1 l2 => by
        exact q q4 lo hi _ l0 l1 l2 b4 B4 (b3.fresh (B3.apart n4) n4) h4
      have n2' : H3 p2 = none := none_of n2
      refine dip_do (n := n + 60) (Br.new (Br.new (Br.new B3 n1) n2) n3) (by omega) (by decide) (small1000' (by decide)) fun h o4 h0 h1 hB4 => ?_
      have nea : p1 ≠ a ∧ p2 ≠ a ∧ p3 ≠ a := ⟨B3.apart n1, B3.apart n2', ((B3.new n1).new n2).apart n3⟩
      rcases (show h = 0 ∨ h = 1 by omega) with e | e
      · refine ⟨_, h, rfl, sqL_of (upd_at nea.2.2 upd_same), .ref p1, by rw [e]; rfl, ?_⟩
        refine fin2 p1 _ _ _ (upd_at nea.1 (upd_new n3 (upd_new n2 upd_same))) n1 (((b3.new n1).new n2).new n3).at ((Br.put hB4).mono (by omega)) (Int.le_refl _) ?_ ?_ <;> split <;> omega
      · refine ⟨_, h, rfl, sqL_of (upd_at nea.2.2 upd_same), .ref p2, by rw [e]; rfl, ?_⟩
        refine fin2 p2 _ _ _ (upd_at nea.2.1 (upd_new n3 upd_same)) n2' (((b3.new n1).new n2).new n3).at ((Br.put hB4).mono (by omega)) ?_ ?_ (by omega) <;> split <;> omega
    · walk_at "vc"
      refine dip_do (n := n + 60) B3 (by omega) (by omega) (lt1000 (k := 241) (by have := pow_le (a := bits + 1) (b := 241) (by omega); rw [Int.pow_succ] at this; omega) (by decide)) fun h o4 h0 h1 hB4 => ?_
      refine ⟨_, rfl, le_size (by decide), fun q4 n4 => ?_⟩
      exact fin q4 _ _ _ n4 b3.at ((Br.put hB4).mono (by omega)) (by split <;> omega) (by split <;> omega) (by omega))

/-! ### a box drawn -/
def sp__law_box (K : PySem.W.Frag) : Sp := fun vs H Q _ => ∃ (a p : Addr) (sh : List Int) (n : Nat), vs = [.ref a, .ref p] ∧ Br a n H ∧ n ≤ 2 ^ 57 ∧ ShOk sh ∧ SqT K H p (sh.map V.int) ∧ ∀ b bx H', But a H H' → Br a (n + 500) H' → H b = none → BoxAt H' b bx → BoxSh sh bx → Q (.ref b) H'
theorem O__law_box (T : Txt K mg) : Ok P w K mg base CX0 4 "_law_box" ["_law_brook_here", "_law_shape_here"] (sp__law_box K) :=
  Ok.mk0 T.f__law_box T.g__law_box sc__law_box (by rintro vs H Q E ⟨_, _, _, _, rfl, _⟩; rfl) (fun _ _ _ _ _ _ us hl => match us, hl with | [_, _], _ => rfl) (fun f cdv A outer s H vs Q E hr h => by
    obtain ⟨a, p, sh, n, rfl, hB, hn, hsh, hp, q⟩ := h
    refine ⟨_, (pss_one (ps_ret (pe_callTy (tupleOf K) (by rfl) T.n_tuple (by decide +kernel) (pa_cons (pe_lc (own := [("_law_bits", 2)]) (g := (gName 2)) rfl sc__law_box.nd (piT K (pv 1)) (blkOk_by (N := N__law_box) (sc := defScope s__law_box) (by decide +kernel)) (fun _ _ _ _ _ => (pg_name (i := 2) sc__law_box.nd rfl (.inl rfl))) (fun _ _ _ _ _ => pts_nil) (fun _ _ _ _ _ => (cal (O__law_stretch T) hr (pa_cons (pv 0) (pa_cons (pv 2) pa_nil))))) pa_nil)))), ?_⟩
    walk_at "vc"
    have n4 := hsh.n4
    refine ⟨⟨_, hp⟩, ?_⟩
    refine comp_t (xs := sh.map V.int) (fun D i H' => ∃ (zs : List V) (bx : List (Int × Int)), But a H H' ∧ Br a (n + 100 * i) H' ∧ H' D = some (.lst zs) ∧ TupsAt H' zs (bx.map prV) ∧ bx.length = i ∧ ∀ k, k < i → 0 ≤ (bx.getD k (0, 0)).1 ∧ (bx.getD k (0, 0)).1 ≤ (bx.getD k (0, 0)).2 ∧ (bx.getD k (0, 0)).2 < 2 ^ (sh.getD k 0).toNat)
      (fun D nD => ⟨[], [], But.refl.new nD, hB.new nD, upd_same, .nil, rfl, fun k hk => absurd hk (by omega)⟩) (fun D i H' nD _ ⟨_, _, b, _⟩ => hB.keepT b hp) ?_ ?_
    · rintro D i x H' nD hx ⟨zs, bx, b1, B1, hD, hz, hbl, hbk⟩
      have hi : i < sh.length := by
        have := (List.getElem?_eq_some_iff.mp hx).1
        rw [List.length_map] at this
        exact this
      have ex : x = .int (sh.getD i 0) := Option.some.inj (hx.symm.trans (ints_at hi))
      subst ex
      obtain ⟨t0, t1⟩ := hsh.at hi
      obtain ⟨b, hb⟩ := Int.eq_ofNat_of_zero_le (show 0 ≤ sh.getD i 0 by omega)
      rw [hb]
      have nDa := hB.apart nD
      walk_at "vc"
      refine ⟨a, b, n + 100 * i, rfl, B1, by omega, by omega, by omega, fun r lo hi H2 h0 h1 h2 b2 B2 nr hr => ⟨zs, b2 _ _ nDa hD, lt_size (by rw [hz.lenB, hbl]; omega), (b1.trans b2).mine nD, (B2.at nDa).mono (by omega), _, upd_same, bx ++ [(lo, hi)], ?_, by rw [List.length_append, hbl]; rfl, fun k hk => ?_⟩⟩
      · rw [List.map_append]
        exact ((B1.tups b2 hz).snoc hr).put (b2 _ _ nDa hD)
      · by_cases e : k < i
        · rw [getP_snoc_lt (by omega)]
          exact hbk k e
        · have : k = i := by omega
          subst this
          rw [getP_snoc_eq hbl.symm, hb, Int.toNat_natCast]
          exact ⟨h0, h1, h2⟩
    · rintro D H' nD ⟨zs, bx, b1, B1, hD, hz, hbl, hbk⟩
      walk_at "vc"
      rw [List.length_map] at hbl hbk B1
      exact ⟨_, sqL_of hD, fun b nb => q b bx _ (b1.new nb) ((B1.new nb).mono (by omega)) (b1.fresh (B1.apart nb) nb) ⟨zs, upd_same, hz.same (same_new nb)⟩ ⟨hbl, fun k hk => (hbk k hk).1, fun k hk => (hbk k hk).2.1, fun k hk => (hbk k hk).2.2⟩⟩)

/-! ### a key by the law's own way; a weave of letters -/
def sp__law_key (K : PySem.W.Frag) : Sp := fun vs H Q _ => ∃ (l : List Nat) (n : Nat) (p ce : Addr) (cs : List Int), vs = [.str (sg l), .ref p, .ref ce] ∧ WOk l n ∧ SqT K H p ((cnts l n).map V.int) ∧ SqT K H ce (cs.map V.int) ∧ CellOk l n cs ∧ ∀ H', Same H H' → Q (.int (keyN l cs l.length)) H'
theorem O__law_key (T : Txt K mg) : Ok P w K mg base CX0 1 "_law_key" ["_law_letters_here", "_law_shape_here", "_law_cell"] (sp__law_key K) :=
  Ok.mk0 T.f__law_key T.g__law_key sc__law_key (by rintro vs H Q E ⟨_, _, _, _, _, rfl, _⟩; rfl) (fun _ _ _ _ _ _ us hl => match us, hl with | [_, _, _], _ => rfl) (fun f cdv A outer s H vs Q E hr h => by
    obtain ⟨l, n, p, ce, cs, rfl, hW, hp, hce, hc, q⟩ := h
    refine ⟨_, (pss_cons (ps_par (i := 3) (j := 4) rfl sc__law_key.nd rfl rfl (by decide) rfl rfl (pa_cons (pe_callTy (listOf K) (by rfl) T.n_list (by decide +kernel) (pa_cons (pv 1) pa_nil)) (pa_cons pe_int pa_nil)) (by rfl))
    (pss_cons (ps_for PassesOwn.never rfl (pi_str (pv 0)) (pg_name (i := 5) sc__law_key.nd rfl (.inl rfl)) (pss_cons (ps_set (i := 6) sc__law_key.nd rfl (.inl rfl) (bmK K PySem.F.plainAttrs_str PySem.F.slot_str_index PySem.F.type_str_index mt_sindex pe_str (pa_cons (pv 5) pa_nil)))
    (pss_cons (ps_asg (pe_op op_sub (pe_ix (ixL K) (pv 3) (pv 6) (fun _ _ => rfl)) pe_int) (pg_sub (pv 3) (pv 6) set_list))
    (pss_one (ps_set (i := 4) sc__law_key.nd rfl (.inl rfl) (pe_op op_add (pe_op op_mulX pe_int (pv 4)) (pe_op op_mod (pe_callTy intI (by rfl) T.n_int (by decide +kernel) (pa_cons (pe_op op_shrN (pe_ix (ixT K) (pv 2) (pv 6) (fun _ _ => rfl)) (pe_ix (ixL K) (pv 3) (pv 6) (fun _ _ => rfl))) pa_nil)) pe_int)))))))
    (pss_one (ps_ret (pv 4))))), ?_⟩
    walk_at "vc"
    refine ⟨(cnts l n).map V.int, .inr hp, fun L nL => ?_⟩
    refine loop_w walk_str (fun i σ' H' => ∃ (y5 y6 : Option V), σ' = [some (.str (sg l)), some (.ref p), some (.ref ce), some (.ref L), some (.int (keyN l cs i)), y5, y6] ∧ Same H H' ∧ H' L = some (.lst ((lft (cnts l n) (l.take i)).map V.int)))
      ⟨none, none, rfl, same_new nL, by rw [List.take_zero, lft_nil]; exact upd_same⟩ (fun _ _ _ _ _ => True.intro) ?_ ?_
    · rintro i x σ' H2 H3 hi ⟨y5, y6, rfl, hs, hL⟩ ⟨rfl, c, hc', rfl⟩
      have hcl : l[i]? = some c := by
        have : (sg l).cps.toList[i]? = some c := by rw [Array.getElem?_toList]; exact hc'
        rw [sg_cps] at this
        exact this
      walk_at "vc"
      have hil := (List.getElem?_eq_some_iff.mp hcl).1
      obtain ⟨c1, c2⟩ := hW.rng c (List.mem_of_getElem? hcl)
      have hg : l.getD i 0 = c := by rw [List.getD_eq_getElem?_getD, hcl]; rfl
      have hc2 : l[i] = c := Option.some.inj ((List.getElem?_eq_getElem hil).symm.trans hcl)
      have hx : c - 97 < (cnts l n).length := by rw [cnts_len]; omega
      have hn4 := hW.n4
      have hlt : (l.take i).count c < l.count c := by
        have := cnt_lt hil
        rw [hc2] at this
        exact this
      have hv : (lft (cnts l n) (l.take i)).getD (c - 97) 0 = (l.count c : Int) - ((l.take i).count c : Nat) := by
        rw [lft_get hx, List.getD_eq_getElem?_getD, cnts_at (by omega), show 97 + (c - 97) = c by omega]
        rfl
      have ix : ixN ((lft (cnts l n) (l.take i)).map V.int).length ((c - 97 : Nat) : Int) = some (c - 97) := by
        unfold ixN
        rw [List.length_map, lft_len, if_pos (by omega), if_pos (by omega), Int.toNat_natCast]
      obtain ⟨k0, k1⟩ := keyN_bound l cs i
      have hW240 := hW.le
      refine ⟨c - 97, _, abcd_index c1 (by omega), _, sqL_of hL, _, at_nat rfl (ints_at (by rw [lft_len]; exact hx)), _, rfl, _, hL, _, ix, mulx_of (a := 2) (b := 240) (by decide) (by decide) k0 (lt_pow k1 (by omega)) (by decide), _, hs.own nL |>.sqT hce, _, at_nat rfl (ints_at (by rw [hc.len]; omega)), _, sqL_of upd_same, _, at_nat (j := c - 97) rfl (by rw [List.getElem?_set_self (by rw [List.length_map, lft_len]; exact hx)]), _, rfl, l.count c - (l.take i).count c - 1, by rw [hv]; congr 1; omega, by decide, ?_, hs.own nL, ?_⟩
      · rw [keyN, hg]
        omega
      · rw [upd_same, List.take_succ_eq_append_getElem hil, hc2, show c = 97 + (c - 97) by omega, lft_snoc hx, List.map_set, show 97 + (c - 97) - 97 = c - 97 by omega]
    · rintro σ' H2 ⟨y5, y6, rfl, hs, hL⟩
      walk_at "vc"
      rw [show (sg l).cps.size = l.length from sg_len l]
      exact q _ hs)

/-! ### all cells of a small shape -/
def sp__law_cells (K : PySem.W.Frag) : Sp := fun vs H Q _ => ∃ (p : Addr) (sh : List Int), vs = [.ref p] ∧ ShOk sh ∧ SqT K H p (sh.map V.int) ∧ sh.sum ≤ 9 ∧ ∀ D xs H', Same H H' → H' D = some (.lst xs) → TupsAt H' xs ((cellsOf sh).map fun c => c.map V.int) → Q (.ref D) H'
theorem O__law_cells (T : Txt K mg) : Ok P w K mg base CX0 1 "_law_cells" ["_law_shape_here"] (sp__law_cells K) :=
  Ok.mk0 T.f__law_cells T.g__law_cells sc__law_cells (by rintro vs H Q E ⟨_, _, rfl, _⟩; rfl) (fun _ _ _ _ _ _ us hl => match us, hl with | [_], _ => rfl) (fun f cdv A outer s H vs Q E hr h => by
    obtain ⟨p, sh, rfl, hsh, hp, hsm, q⟩ := h
    refine ⟨_, (pss_cons (ps_set (i := 1) sc__law_cells.nd rfl (.inl rfl) (pe_lst (pa_cons (pe_tup pa_nil) pa_nil)))
    (pss_cons (ps_for PassesOwn.never rfl (piT K (pv 0)) (pg_name (i := 2) sc__law_cells.nd rfl (.inl rfl)) (pss_cons (ps_set (i := 3) sc__law_cells.nd rfl (.inl rfl) (pe_lst pa_nil))
    (pss_cons (ps_for PassesOwn.never rfl (piL K (pv 1)) (pg_name (i := 4) sc__law_cells.nd rfl (.inr rfl)) (pss_one (ps_expr (bmK K PySem.F.plainAttrs_list PySem.F.slot_list_extend PySem.F.type_list_extend mt_extend (pv 3) (pa_cons (pe_lc (own := [("_law_number", 5)]) (g := (gName 5)) rfl sc__law_cells.nd (pi_range1 (by rfl) T.n_range (pa_cons (pe_op op_oneShl pe_int (pv 2)) pa_nil)) (blkOk_by (N := N__law_cells) (sc := defScope s__law_cells) (by decide +kernel)) (fun _ _ _ _ _ => (pg_name (i := 5) sc__law_cells.nd rfl (.inl rfl))) (fun _ _ _ _ _ => pts_nil) (fun _ _ _ _ _ => (pe_op (catA K) (pv 4) (pe_tup (pa_cons (pv 5) pa_nil))))) pa_nil)))))
    (pss_one (ps_set (i := 1) sc__law_cells.nd rfl (.inl rfl) (pv 3))))))
    (pss_one (ps_ret (pv 1))))), ?_⟩
    walk_at "vc"
    have hs4 := hsh.n4
    have h0 : ∀ b ∈ sh, 0 ≤ b := fun b hb => by have := (hsh.bt b hb).1; omega
    have hb9 : ∀ k, k < sh.length → sh.getD k 0 ≤ 9 := fun k hk => by
      have := mem_le_sum sh h0 _ (gMem hk)
      omega
    have hmany : ∀ m, m ≤ sh.length → (cellsOf (sh.take m)).length ≤ 512 := fun m hm => by
      obtain ⟨e, e2⟩ := cellsOf_len m sh hm h0
      rw [e]
      have := sum_take_le sh h0 m
      exact Nat.pow_le_pow_right (n := 2) (by decide) (show (sh.take m).sum.toNat ≤ 9 by omega)
    refine ⟨Nat.zero_le _, fun t nt => ⟨le_size (by decide), fun D nD => ⟨⟨_, sqT_new (sqT_new hp nt) nD⟩, ?_⟩⟩⟩
    refine loop_t (xs := sh.map V.int) (fun i σ' H' => ∃ (D : Addr) (xs : List V) (y2 y3 y4 y5 : Option V), σ' = [some (.ref p), some (.ref D), y2, y3, y4, y5] ∧ Same H H' ∧ H' D = some (.lst xs) ∧ TupsAt H' xs ((cellsOf (sh.take i)).map fun c => c.map V.int))
      ⟨D, [.ref t], none, none, none, none, rfl, (same_new nt).new nD, upd_same, .one (upd_new nD upd_same)⟩ (by rintro i σ' H' _ ⟨_, _, _, _, _, _, _, s, _⟩; exact s.sqT hp) ?_ ?_
    · rintro i x σ' H1 hx ⟨D, xs, y2, y3, y4, y5, rfl, s1, hD, ht⟩
      have hi : i < sh.length := by
        have := (List.getElem?_eq_some_iff.mp hx).1
        rw [List.length_map] at this
        exact this
      have ex : x = .int (sh.getD i 0) := Option.some.inj (hx.symm.trans (ints_at hi))
      subst ex
      obtain ⟨t0, t1⟩ := hsh.at hi
      have t2 := hb9 i hi
      generalize hb : (sh.getD i 0).toNat = b at *
      have eb : sh.getD i 0 = (b : Int) := by omega
      rw [eb]
      walk_at "vc"
      refine ⟨Nat.zero_le _, fun G nG => ⟨⟨_, sqL_of (upd_new nG hD)⟩, ?_⟩⟩
      generalize hacc : cellsOf (sh.take i) = acc at *
      have ha512 : acc.length ≤ 512 := by
        have := hmany i (by omega)
        rw [hacc] at this
        exact this
      have hg512 : ∀ j, j ≤ acc.length → (grow b (acc.take j)).length ≤ 512 := fun j hj => by
        have h := hmany (i + 1) hi
        rw [List.take_succ_eq_append_getElem hi, cellsOf_snoc, hacc, show sh[i] = sh.getD i 0 by rw [List.getD_eq_getElem?_getD, List.getElem?_eq_getElem hi]; rfl, hb, grow_len] at h
        rw [grow_len, List.length_take, Nat.min_eq_left hj]
        exact Nat.le_trans (Nat.mul_le_mul_right _ hj) h
      have hxl : xs.length = acc.length := by rw [ht.1, List.length_map]
      refine loop_l (xs := xs) (fun j σ' H' => ∃ (gs : List V) (y4 y5 : Option V), σ' = [some (.ref p), some (.ref D), some (.int (b : Int)), some (.ref G), y4, y5] ∧ Same H1 H' ∧ H' G = some (.lst gs) ∧ TupsAt H' gs ((grow b (acc.take j)).map fun c => c.map V.int))
        ⟨[], y4, y5, rfl, same_new nG, upd_same, .nil⟩ (by rintro j σ' H' _ ⟨_, _, _, _, s, _⟩; exact sqL_of (s _ _ hD)) ?_ ?_
      · rintro j x σ' H2 hxj ⟨gs, y4, y5, rfl, s2, hG, htg⟩
        obtain ⟨ca, ct, rfl, hct, hca⟩ := (ht.same s2).get hxj
        have hj : j < acc.length := by
          have := (List.getElem?_eq_some_iff.mp hxj).1
          omega
        have hcj : ct = acc[j].map V.int := by
          rw [List.getElem?_map, List.getElem?_eq_getElem hj] at hct
          exact (Option.some.inj hct).symm
        subst hcj
        have hcl : acc[j].length ≤ 1000 := by
          have := (cellsOf_all i sh (by omega) acc[j] (by rw [hacc]; exact List.getElem_mem hj)).1
          omega
        walk_at "vc"
        have pb := pow_pos' b
        have p9 : (2 : Int) ^ b ≤ 2 ^ 9 := pow_le (by omega)
        have e9 : (2 : Int) ^ 9 = 512 := by decide
        refine ⟨tyv_l hG, b, rfl, by omega, by omega, by omega, ?_⟩
        refine comp_r (fun E k H' => Same H2 H' ∧ ∃ zs, H' E = some (.lst zs) ∧ TupsAt H' zs ((List.range k).map fun v => (acc[j] ++ [((v : Nat) : Int)]).map V.int)) (fun E nE => ⟨same_new nE, [], upd_same, .nil⟩) ?_ ?_
        · rintro E k H' nE hk ⟨s3, zs, hE, hz⟩
          walk_at "vc"
          have hzl : zs.length = k := by rw [hz.1, List.length_map, List.length_range]
          have nE2 : H2 E = none := nE
          refine ⟨le_size (by decide), fun u nu => catA_do (sqT_of ((s3.new nu) _ _ hca)) upd_same (by rw [List.length_map]; exact hcl) fun r H4 s4 hr4 => ?_⟩
          have hE4 := s4 _ _ (upd_new nu hE)
          refine ⟨zs, hE4, lt_size (by omega), ((s3.new nu).trans s4).own nE2, _, upd_same, ?_⟩
          rw [List.range_succ, List.map_append, List.map_singleton, ← map_int_snoc]
          rw [Int.zero_add] at hr4
          exact (((hz.same (same_new nu)).same s4).snoc hr4).put hE4
        · rintro E H' nE ⟨s3, zs, hE, hz⟩
          have hzl : zs.length = (2 ^ b : Int).toNat := by rw [hz.1, List.length_map, List.length_range]
          have e2 : (2 ^ b : Int).toNat = 2 ^ b := by rw [pow_nat, Int.toNat_natCast]
          have hgl : gs.length ≤ 512 := by
            rw [htg.1, List.length_map]
            exact hg512 j (by omega)
          refine ⟨G, E, gs, zs, rfl, rfl, s3 _ _ hG, hE, le_size (by omega), (s2.trans s3).own nG, _, upd_same, ?_⟩
          rw [List.take_succ_eq_append_getElem hj, grow_snoc, List.map_append, List.map_map]
          rw [e2] at hz
          exact ((htg.same s3).app hz).put (s3 _ _ hG)
      · rintro σ' H2 ⟨gs, y4, y5, rfl, s2, hG, htg⟩
        walk_at "vc"
        refine ⟨s1.trans s2, _, hG, ?_⟩
        rw [List.take_succ_eq_append_getElem hi, cellsOf_snoc, hacc, show sh[i] = sh.getD i 0 by rw [List.getD_eq_getElem?_getD, List.getElem?_eq_getElem hi]; rfl, hb]
        rw [hxl, List.take_length] at htg
        exact htg
    · rintro σ' H1 ⟨D, xs, y2, y3, y4, y5, rfl, s1, hD, ht⟩
      walk_at "vc"
      rw [List.length_map, List.take_length] at ht
      exact q D xs H1 s1 hD ht)

def sp__law_same (K : PySem.W.Frag) : Sp := fun vs H Q _ => ∃ (x y : V) (d : PyData) (h n : Nat), vs = [x, y] ∧ Dp K H x d ∧ Dp K H y d ∧ DOk h n d ∧ h ≤ 60 ∧ n ≤ 100000 ∧ Q (.bl true) H
theorem O__law_same (T : Txt K mg) : OkG P w K mg base CX0 1 "_law_same" ["_law_actual", "_law_expected"] (sp__law_same K) :=
  OkG.mk0 T.f__law_same T.g__law_same sc__law_same (by rintro vs H Q E ⟨x, y, d, h, n, rfl, _⟩; rfl) (fun _ _ _ _ _ _ us hl => match us, hl with | [_, _], _ => rfl) (fun f cdv A outer s H vs Q E hr gd h => by
    obtain ⟨x, y, d, h, n, rfl, hx, hy, hd, h1, h2, q⟩ := h
    refine ⟨_, (pss_one (ps_ret (pe_cmpR op_eq (pe_callB (reprD K hr gd) (by rfl) T.n_repr (by decide +kernel) (pa_cons (pv 0) pa_nil)) (pe_callB (reprD K hr gd) (by rfl) T.n_repr (by decide +kernel) (pa_cons (pv 1) pa_nil)) (nomark _)))), ?_⟩
    walk_at "vc"
    refine repr_do hx hd h1 h2 (repr_do hy hd h1 h2 ?_)
    walk_at "vc"
    exact q)
theorem same_do {x y : V} {d : PyData} {h n : Nat} {H : Hp} {Q : VK} {E : XK} (hx : Dp K H x d) (hy : Dp K H y d) (hd : DOk h n d) (q : Q (.bl true) H) (h1 : h ≤ 60 := by decide) (h2 : n ≤ 100000 := by decide) : sp__law_same K [x, y] H Q E :=
  ⟨x, y, d, h, n, rfl, hx, hy, hd, h1, h2, q⟩

end
section
variable {P : Program} {w : World} {K : PySem.W.Frag} {mg : Str → Option Value} {base : Heap}
/-! ### the keys in a box, cell by cell -/
theorem eqL_do {H : Hp} {a b : Addr} {xs ys : List Int} {Q : VK} (ha : SqL K H a (xs.map V.int)) (hb : SqL K H b (ys.map V.int)) (q : Q (.bl (decide (xs = ys))) H) : rEqD K (.ref a) (.ref b) H Q := by
  refine ⟨_, _, dp_lst ha, dp_lst hb, LOk.ints.shaped, LOk.ints.shaped, ?_⟩
  rw [PyData.eqv, eqv_ints_iff]
  exact q
def outsOf (bx : List (Int × Int)) (cs : List Int) (i : Nat) : List Int := ((List.range i).filter fun k => !(decide ((bx.getD k (0, 0)).1 ≤ cs.getD k 0) && decide (cs.getD k 0 ≤ (bx.getD k (0, 0)).2))).map fun _ => 1
theorem outs_snoc (bx : List (Int × Int)) (cs : List Int) (i : Nat) : outsOf bx cs (i + 1) = if (decide ((bx.getD i (0, 0)).1 ≤ cs.getD i 0) && decide (cs.getD i 0 ≤ (bx.getD i (0, 0)).2)) = true then outsOf bx cs i else outsOf bx cs i ++ [1] := by
  unfold outsOf
  rw [List.range_succ, List.filter_append, List.map_append, List.filter_cons]
  cases (decide ((bx.getD i (0, 0)).1 ≤ cs.getD i 0) && decide (cs.getD i 0 ≤ (bx.getD i (0, 0)).2)) <;> simp
theorem outs_len (bx : List (Int × Int)) (cs : List Int) (i : Nat) : (outsOf bx cs i).length ≤ i := by
  unfold outsOf
  rw [List.length_map]
  exact Nat.le_trans (List.length_filter_le _ _) (by rw [List.length_range]; exact Nat.le_refl _)
theorem outs_nil (bx : List (Int × Int)) (cs : List Int) : decide (outsOf bx cs bx.length = []) = inC bx cs := by
  unfold outsOf inC
  rw [Bool.eq_iff_iff, decide_eq_true_eq, List.map_eq_nil_iff, List.filter_eq_nil_iff, List.all_eq_true]
  constructor <;> intro h k hk <;> have := h k hk <;> simp at this ⊢ <;> omega
def sp__law_within (K : PySem.W.Frag) : Sp := fun vs H Q _ => ∃ (b c : Addr) (bx : List (Int × Int)) (cs : List Int), vs = [.ref b, .ref c] ∧ BoxAt H b bx ∧ SqT K H c (cs.map V.int) ∧ cs.length = bx.length ∧ bx.length ≤ 4 ∧ ∀ H', Same H H' → Q (.bl (inC bx cs)) H'
theorem O__law_within (T : Txt K mg) : Ok P w K mg base CX0 1 "_law_within" ["_law_box_here", "_law_cell"] (sp__law_within K) :=
  Ok.mk0 T.f__law_within T.g__law_within sc__law_within (by rintro vs H Q E ⟨_, _, _, _, rfl, _⟩; rfl) (fun _ _ _ _ _ _ us hl => match us, hl with | [_, _], _ => rfl) (fun f cdv A outer s H vs Q E hr h => by
    obtain ⟨b, c, bx, cs, rfl, hb, hc, hl, h4, q⟩ := h
    refine ⟨_, (pss_one (ps_ret (pe_cmpR (eqD K hr) (pe_lc (own := [("_law_stretch_here", 2), ("_law_number", 3)]) (g := (gTup K 2 (gCons (gName 2) (gCons (gName 3) gNil)))) rfl sc__law_within.nd (piZipT K T.n_zip (pa_cons (pv 0) (pa_cons (pv 1) pa_nil))) (blkOk_by (N := N__law_within) (sc := defScope s__law_within) (by decide +kernel)) (fun _ _ _ _ _ => (pgTup K (n := 2) (pgs_cons (pg_name (i := 2) sc__law_within.nd rfl (.inl rfl)) (pgs_cons (pg_name (i := 3) sc__law_within.nd rfl (.inl rfl)) pgs_nil)))) (fun _ _ _ _ _ => (pts_one (pt_not (pt_chain op_le op_le (pe_ix (ixT K) (pv 2) pe_int (fun _ _ => rfl)) (pv 3) (pe_ix (ixT K) (pv 2) pe_int (fun _ _ => rfl)))))) (fun _ _ _ _ _ => pe_int)) (pe_lst pa_nil) (nomark _)))), ?_⟩
    walk_at "vc"
    obtain ⟨xs, hx, ht⟩ := hb
    have hz : bx.length = min xs.length (cs.map V.int).length := by rw [ht.lenB, List.length_map, hl, Nat.min_self]
    refine ⟨_, sqT_of hx, _, hc, ?_⟩
    refine comp_w (walk_zipT hz) (fun D i H' => Same H H' ∧ H' D = some (.lst ((outsOf bx cs i).map V.int))) (fun D nD => ⟨same_new nD, upd_same⟩) (fun D i H' nD hi h => ⟨sqT_of (h.1 _ _ hx), h.1.sqT hc⟩) ?_ ?_
    · rintro D i x H1 H2 nD hi ⟨s1, hD⟩ ⟨T1, x1, x2, rfl, nT, rfl, g1, g2⟩
      obtain ⟨a, rfl, hi2, ha⟩ := (ht.same (s1.new (o := .tup [x1, x2]) nT)).pair g1
      have e2 : x2 = .int (cs.getD i 0) := Option.some.inj (g2.symm.trans (ints_at (by omega)))
      subst e2
      walk_at "vc"
      refine ⟨_, sqT_of upd_same, rfl, _, _, rfl, _, _, rfl, rfl, ?_⟩
      walk_at "vc"
      have hD2 := upd_new (o := .tup [.ref a, .int (cs.getD i 0)]) nT hD
      have hol := outs_len bx cs i
      have no : (decide ((bx.getD i (0, 0)).1 ≤ cs.getD i 0) && decide (cs.getD i 0 ≤ (bx.getD i (0, 0)).2)) = false → ∃ acc, upd H1 T1 (.tup [.ref a, .int (cs.getD i 0)]) D = some (.lst acc) ∧ acc.length < sizeLine ∧ Same H (upd (upd H1 T1 (.tup [.ref a, .int (cs.getD i 0)])) D (.lst (acc ++ [.int 1]))) ∧ upd (upd H1 T1 (.tup [.ref a, .int (cs.getD i 0)])) D (.lst (acc ++ [.int 1])) D = some (.lst ((outsOf bx cs (i + 1)).map V.int)) := fun hf => by
        refine ⟨_, hD2, lt_size (by rw [List.length_map]; omega), (s1.new nT).own nD, ?_⟩
        rw [upd_same, outs_snoc, hf, if_neg (by decide), List.map_append]
        rfl
      refine ⟨_, sqT_of ha, _, rfl, _, rfl, ?_⟩
      refine if_d (fun h1 => ⟨_, sqT_of ha, _, rfl, _, rfl, if_nd (fun h2 => no (by rw [decide_eq_false h2, Bool.and_false])) (fun h2 => ⟨s1.new nT, ?_⟩)⟩) (fun h1 => no (by rw [decide_eq_false h1, Bool.false_and]))
      rw [outs_snoc, decide_eq_true h1, decide_eq_true h2]
      exact hD2
    · rintro D H1 nD ⟨s1, hD⟩
      walk_at "vc"
      refine ⟨Nat.zero_le _, fun p np => eqL_do (ys := []) (sqL_of (upd_new np hD)) (sqL_of upd_same) ?_⟩
      rw [outs_nil]
      exact q _ (s1.new np))
def sp__law_listed (K : PySem.W.Frag) : Sp := fun vs H Q _ => ∃ (l : List Nat) (p b : Addr) (sh : List Int) (bx : List (Int × Int)), vs = [.str (sg l), .ref p, .ref b] ∧ ShOk sh ∧ sh.sum ≤ 9 ∧ WOk l sh.length ∧ cnts l sh.length = sh ∧ H p = some (.tup (sh.map V.int)) ∧ BoxAt H b bx ∧ BoxSh sh bx ∧ ∀ D H', Same H H' → H D = none → H' D = some (.lst ((listB (inB l bx) (2 ^ l.length)).map V.int)) → Q (.ref D) H'
theorem O__law_listed (T : Txt K mg) : Ok P w K mg base CX0 2 "_law_listed" ["_law_letters_here", "_law_shape_here", "_law_box_here"] (sp__law_listed K) :=
  Ok.mk0 T.f__law_listed T.g__law_listed sc__law_listed (by rintro vs H Q E ⟨_, _, _, _, _, rfl, _⟩; rfl) (fun _ _ _ _ _ _ us hl => match us, hl with | [_, _, _], _ => rfl) (fun f cdv A outer s H vs Q E hr h => by
    obtain ⟨l, p, b, sh, bx, rfl, hsh, hsm, hW, hl, hp, hb, hbs, q⟩ := h
    refine ⟨_, (pss_cons (ps_setLc (i := 3) (own := [("_law_cell", 4)]) (g := (gName 4)) rfl sc__law_listed.nd rfl rfl (sw_true rfl rfl rfl (by decide +kernel)) (piL K (cal (O__law_cells T) hr (pa_cons (pv 1) pa_nil))) (blkOk_by (N := N__law_listed) (sc := defScope s__law_listed) (by decide +kernel)) (fun _ _ _ _ _ => (pg_name (i := 4) sc__law_listed.nd rfl (.inl rfl))) (fun _ _ _ _ _ => (pts_one (pt_val (cal (O__law_within T) hr (pa_cons (pv 2) (pa_cons (pv 4) pa_nil)))))) (fun _ _ _ _ _ => (pv 4)))
    (pss_one (ps_ret (pe_callB (sortI K) (by rfl) T.n_sorted (by decide +kernel) (pa_cons (pe_lc (own := [("_law_cell", 4)]) (g := (gName 4)) rfl sc__law_listed.nd (piL K (pv 3)) (blkOk_by (N := N__law_listed) (sc := defScope s__law_listed) (by decide +kernel)) (fun _ _ _ _ _ => (pg_name (i := 4) sc__law_listed.nd rfl (.inl rfl))) (fun _ _ _ _ _ => pts_nil) (fun _ _ _ _ _ => (cal (O__law_key T) hr (pa_cons (pv 0) (pa_cons (pv 1) (pa_cons (pv 4) pa_nil)))))) pa_nil))))), ?_⟩
    walk_at "vc"
    have hs4 := hsh.n4
    refine ⟨p, sh, rfl, hsh, sqT_of hp, hsm, fun D xs H1 s1 hD ht => ⟨D, rfl, ⟨_, sqL_of hD⟩, ?_⟩⟩
    have hcl := cellsOf_len sh.length sh (Nat.le_refl _) fun b hb => by have := (hsh.bt b hb).1; omega
    rw [List.take_length] at hcl
    have h512 : (cellsOf sh).length ≤ 512 := by
      rw [hcl.1]
      exact Nat.pow_le_pow_right (n := 2) (by decide) (show sh.sum.toNat ≤ 9 by omega)
    refine comp_l (xs := xs) (fun E i H' => Same H1 H' ∧ ∃ zs, H' E = some (.lst zs) ∧ TupsAt H' zs ((((cellsOf sh).take i).filter (inC bx)).map fun c => c.map V.int)) (fun E nE => ⟨same_new nE, [], upd_same, by rw [List.take_zero]; exact .nil⟩) (fun E i H' nE _ h => sqL_of (h.1 _ _ hD)) ?_ ?_
    · rintro E i z H' nE hz ⟨s2, zs, hE, hzs⟩
      obtain ⟨ca, ct, rfl, hct, hca⟩ := (ht.same s2).get hz
      rw [List.getElem?_map] at hct
      obtain ⟨c, hc, rfl⟩ := Option.map_eq_some_iff.mp hct
      have hcb := cellsOf_bound (List.mem_of_getElem? hc)
      walk_at "vc"
      refine ⟨b, ca, bx, c, rfl, (hb.same s1).same s2, sqT_of hca, by rw [hcb.1, hbs.len], by rw [hbs.len]; exact hs4, fun H3 s3 => ⟨_, rfl, ?_⟩⟩
      rw [take_snocG hc, List.filter_append]
      have hzl : zs.length ≤ 512 := by
        rw [hzs.1, List.length_map]
        exact Nat.le_trans (List.length_filter_le _ _) (Nat.le_trans (List.length_take_le _ _) (by have := (List.getElem?_eq_some_iff.mp hc).1; omega))
      refine if_c (fun hin => ⟨zs, s3 _ _ hE, lt_size (by omega), (s2.trans s3).own nE, _, upd_same, ?_⟩) (fun hin => ⟨s2.trans s3, zs, s3 _ _ hE, ?_⟩)
      · rw [List.filter_cons, if_pos hin, List.filter_nil, List.map_append]
        exact ((hzs.same s3).snoc (s3 _ _ hca)).put (s3 _ _ hE)
      · rw [List.filter_cons, if_neg (by rw [hin]; decide), List.filter_nil, List.append_nil]
        exact hzs.same s3
    · rintro E H2 nE ⟨s2, zs, hE, hzs⟩
      walk_at "vc"
      rw [ht.1, List.length_map, List.take_length] at hzs
      generalize hcs : (cellsOf sh).filter (inC bx) = cs at *
      have hcsl : cs.length ≤ 512 := by
        rw [← hcs]
        exact Nat.le_trans (List.length_filter_le _ _) h512
      refine ⟨⟨_, sqL_of hE⟩, ?_⟩
      refine comp_l (xs := zs) (fun F i H' => Same H2 H' ∧ H' F = some (.lst (((cs.take i).map fun c => keyN l c l.length).map V.int))) (fun F nF => ⟨same_new nF, upd_same⟩) (fun F i H' nF _ h => sqL_of (h.1 _ _ hE)) ?_ ?_
      · rintro F i z H' nF hz ⟨s3, hF⟩
        obtain ⟨ca, ct, rfl, hct, hca⟩ := (hzs.same s3).get hz
        rw [List.getElem?_map] at hct
        obtain ⟨c, hc, rfl⟩ := Option.map_eq_some_iff.mp hct
        have hi := (List.getElem?_eq_some_iff.mp hc).1
        have hcm : c ∈ cellsOf sh := by
          have := List.mem_of_getElem? hc
          rw [← hcs] at this
          exact (List.mem_filter.mp this).1
        walk_at "vc"
        refine ⟨l, _, p, ca, c, rfl, hW, by rw [hl]; exact sqT_of (((s1.trans s2).trans s3) _ _ hp), sqT_of hca, CellOk.of hl (cellsOf_bound hcm), fun H4 s4 => ⟨_, s4 _ _ hF, lt_size (by rw [List.length_map, List.length_map, List.length_take]; omega), (s3.trans s4).own nF, ?_⟩⟩
        rw [upd_same, take_snocG hc, List.map_append, List.map_append]
        rfl
      · rintro F H3 nF ⟨s3, hF⟩
        rw [hzs.1, List.length_map, List.take_length] at hF
        refine ⟨F, _, rfl, sqL_of hF, fun ns' r hperm hsort nr => ?_⟩
        have e := listed_eq hsh hW hl hbs.len (by rw [hcs]; exact hperm) hsort
        refine q r _ (((s1.trans s2).trans s3).new nr) (((s1.trans s2).trans s3).free nr) ?_
        rw [upd_same, e])

/-! ### finer weaves and boxes, a second box -/
def mirB (sh : List Int) (bx : List (Int × Int)) : List (Int × Int) := (List.range sh.length).map fun k => (2 ^ (sh.getD k 0).toNat - 1 - (bx.getD k (0, 0)).2, 2 ^ (sh.getD k 0).toNat - 1 - (bx.getD k (0, 0)).1)
theorem mirB_len (sh : List Int) (bx : List (Int × Int)) : (mirB sh bx).length = sh.length := by
  unfold mirB
  rw [List.length_map, List.length_range]
theorem mirB_at {sh : List Int} {bx : List (Int × Int)} {k : Nat} (h : k < sh.length) : (mirB sh bx)[k]? = some (2 ^ (sh.getD k 0).toNat - 1 - (bx.getD k (0, 0)).2, 2 ^ (sh.getD k 0).toNat - 1 - (bx.getD k (0, 0)).1) := by
  unfold mirB
  rw [List.getElem?_map, List.getElem?_range h]
  rfl
theorem mirB_ok {sh : List Int} {bx : List (Int × Int)} (hsh : ShOk sh) (h : BoxSh sh bx) : BoxSh sh (mirB sh bx) := by
  have g : ∀ k, k < sh.length → (mirB sh bx).getD k (0, 0) = (2 ^ (sh.getD k 0).toNat - 1 - (bx.getD k (0, 0)).2, 2 ^ (sh.getD k 0).toNat - 1 - (bx.getD k (0, 0)).1) := fun k hk => by
    rw [List.getD_eq_getElem?_getD, mirB_at hk]
    rfl
  refine ⟨mirB_len _ _, fun k hk => ?_, fun k hk => ?_, fun k hk => ?_⟩ <;> rw [g k hk] <;> have h0 := h.lo k hk <;> have h1 := h.le k hk <;> have h2 := h.hi k hk
  · show 0 ≤ _ - _
    omega
  · show _ - _ ≤ _ - _
    omega
  · show _ - _ < _
    omega
def sp__law_wide (K : PySem.W.Frag) : Sp := fun vs H Q _ => ∃ (b m : Addr) (bx : List (Int × Int)) (more : List Int), vs = [.ref b, .ref m] ∧ BoxAt H b bx ∧ SqT K H m (more.map V.int) ∧ more.length = bx.length ∧ bx.length ≤ 4 ∧ (∀ k, k < bx.length → 0 ≤ more.getD k 0 ∧ more.getD k 0 ≤ 240 ∧ 0 ≤ (bx.getD k (0, 0)).1 ∧ (bx.getD k (0, 0)).1 < 2 ^ 240 ∧ 0 ≤ (bx.getD k (0, 0)).2 ∧ (bx.getD k (0, 0)).2 < 2 ^ 240) ∧ ∀ r H', Same H H' → BoxAt H' r (wideB bx more) → Q (.ref r) H'
theorem O__law_wide (T : Txt K mg) : Ok P w K mg base CX0 1 "_law_wide" ["_law_box_here", "_law_more"] (sp__law_wide K) :=
  Ok.mk0 T.f__law_wide T.g__law_wide sc__law_wide (by rintro vs H Q E ⟨_, _, _, _, rfl, _⟩; rfl) (fun _ _ _ _ _ _ us hl => match us, hl with | [_, _], _ => rfl) (fun f cdv A outer s H vs Q E hr h => by
    obtain ⟨b, m, bx, more, rfl, hb, hm, hl, h4, hbd, q⟩ := h
    refine ⟨_, (pss_one (ps_ret (pe_callTy (tupleOf K) (by rfl) T.n_tuple (by decide +kernel) (pa_cons (pe_lc (own := [("_law_bits", 4), ("_law_low", 2), ("_law_high", 3)]) (g := (gTup K 2 (gCons (gTup K 2 (gCons (gName 2) (gCons (gName 3) gNil))) (gCons (gName 4) gNil)))) rfl sc__law_wide.nd (piZipT K T.n_zip (pa_cons (pv 0) (pa_cons (pv 1) pa_nil))) (blkOk_by (N := N__law_wide) (sc := defScope s__law_wide) (by decide +kernel)) (fun _ _ _ _ _ => (pgTup K (n := 2) (pgs_cons (pgTup K (n := 2) (pgs_cons (pg_name (i := 2) sc__law_wide.nd rfl (.inl rfl)) (pgs_cons (pg_name (i := 3) sc__law_wide.nd rfl (.inl rfl)) pgs_nil))) (pgs_cons (pg_name (i := 4) sc__law_wide.nd rfl (.inl rfl)) pgs_nil)))) (fun _ _ _ _ _ => pts_nil) (fun _ _ _ _ _ => (pe_tup (pa_cons (pe_op op_shlN (pv 2) (pv 4)) (pa_cons (pe_op op_sub (pe_op op_shlN (pe_op op_add (pv 3) pe_int) (pv 4)) pe_int) pa_nil))))) pa_nil)))), ?_⟩
    walk_at "vc"
    obtain ⟨xs, hx, ht⟩ := hb
    have hz : bx.length = min xs.length (more.map V.int).length := by rw [ht.lenB, List.length_map, hl, Nat.min_self]
    refine ⟨_, sqT_of hx, _, hm, ?_⟩
    refine comp_w (walk_zipT hz) (fun D i H' => Same H H' ∧ ∃ zs, H' D = some (.lst zs) ∧ TupsAt H' zs (((wideB bx more).take i).map prV)) (fun D nD => ⟨same_new nD, [], upd_same, .nil⟩) (fun D i H' nD hi h => ⟨sqT_of (h.1 _ _ hx), h.1.sqT hm⟩) ?_ ?_
    · rintro D i x H1 H2 nD hi ⟨s1, zs, hD, hzs⟩ ⟨T1, x1, x2, rfl, nT, rfl, g1, g2⟩
      obtain ⟨a, rfl, hi2, ha⟩ := (ht.same (s1.new (o := .tup [x1, x2]) nT)).pair g1
      have e2 : x2 = .int (more.getD i 0) := Option.some.inj (g2.symm.trans (ints_at (by omega)))
      subst e2
      obtain ⟨m0, m1, l0, l1, h0, h1⟩ := hbd i hi
      obtain ⟨mm, hmm⟩ := Int.eq_ofNat_of_zero_le m0
      walk_at "vc"
      refine ⟨_, sqT_of upd_same, rfl, _, _, rfl, a, rfl, _, sqT_of ha, rfl, _, _, rfl, _, _, rfl, rfl, _, _, rfl, rfl, ?_⟩
      have hw : (wideB bx more)[i]? = some ((bx.getD i (0, 0)).1 * 2 ^ mm, ((bx.getD i (0, 0)).2 + 1) * 2 ^ mm - 1) := by
        have h := wideB_get (more := more) hi
        rw [hmm, Int.toNat_natCast] at h
        rw [← h, List.getD_eq_getElem?_getD, List.getElem?_eq_getElem (by rw [wideB_len]; exact hi)]
        rfl
      have e240 : (2 : Int) ^ 241 = 2 * 2 ^ 240 := by decide +kernel
      refine ⟨_, rfl, mm, by rw [hmm], cshl_of (a := 241) l0 (by omega) (by omega), _, rfl, mm, by rw [hmm], cshl_of (a := 241) (by omega) (by omega) (by omega), le_size (by decide), fun p np => ?_⟩
      refine ⟨zs, upd_new np (upd_new nT hD), lt_size (by rw [hzs.lenB, List.length_take]; omega), ((s1.new nT).new np).own nD, _, upd_same, ?_⟩
      rw [take_snocG hw, List.map_append]
      exact ((((hzs.same (same_new nT)).same (same_new np)).snoc upd_same).put (upd_new np (upd_new nT hD)))
    · rintro D H1 nD ⟨s1, zs, hD, hzs⟩
      walk_at "vc"
      rw [List.take_of_length_le (by rw [wideB_len]; exact Nat.le_refl _)] at hzs
      exact ⟨_, sqL_of hD, fun r nr => q r _ (s1.new nr) ⟨zs, upd_same, hzs.same (same_new nr)⟩⟩)
def sp__law_second (K : PySem.W.Frag) : Sp := fun vs H Q _ => ∃ (a p b : Addr) (sh : List Int) (n : Nat) (bx : List (Int × Int)), vs = [.ref a, .ref p, .ref b] ∧ Br a n H ∧ n ≤ 2 ^ 56 ∧ ShOk sh ∧ H p = some (.tup (sh.map V.int)) ∧ BoxAt H b bx ∧ BoxSh sh bx ∧ ∀ r cx H', But a H H' → Br a (n + 600) H' → BoxAt H' r cx → BoxSh sh cx → Q (.ref r) H'
theorem O__law_second (T : Txt K mg) : Ok P w K mg base CX0 5 "_law_second" ["_law_brook_here", "_law_shape_here", "_law_box_here"] (sp__law_second K) :=
  Ok.mk0 T.f__law_second T.g__law_second sc__law_second (by rintro vs H Q E ⟨_, _, _, _, _, _, rfl, _⟩; rfl) (fun _ _ _ _ _ _ us hl => match us, hl with | [_, _, _], _ => rfl) (fun f cdv A outer s H vs Q E hr h => by
    obtain ⟨a, p, b, sh, n, bx, rfl, hB, hn, hsh, hp, hb, hbs, q⟩ := h
    refine ⟨_, (pss_cons (ps_if (pt_cmpR op_eq (cal (O__law_dip T) hr (pa_cons (pv 0) (pa_cons pe_int pa_nil))) pe_int (nomark _)) (pss_one (ps_ret (cal (O__law_box T) hr (pa_cons (pv 0) (pa_cons (pv 1) pa_nil))))) pss_nil)
    (pss_cons (ps_setLc (i := 3) (own := [("_law_bits", 4)]) (g := (gName 4)) rfl sc__law_second.nd rfl rfl (sw_true rfl rfl rfl (by decide +kernel)) (piT K (pv 1)) (blkOk_by (N := N__law_second) (sc := defScope s__law_second) (by decide +kernel)) (fun _ _ _ _ _ => (pg_name (i := 4) sc__law_second.nd rfl (.inl rfl))) (fun _ _ _ _ _ => pts_nil) (fun _ _ _ _ _ => (pe_op op_sub (pe_op op_oneShl pe_int (pv 4)) pe_int)))
    (pss_one (ps_ret (pe_callTy (tupleOf K) (by rfl) T.n_tuple (by decide +kernel) (pa_cons (pe_lc (own := [("_law_top", 5), ("_law_low", 6), ("_law_high", 7)]) (g := (gTup K 2 (gCons (gName 5) (gCons (gTup K 2 (gCons (gName 6) (gCons (gName 7) gNil))) gNil)))) rfl sc__law_second.nd (piZipM K true false T.n_zip (pa_cons (pv 3) (pa_cons (pv 2) pa_nil))) (blkOk_by (N := N__law_second) (sc := defScope s__law_second) (by decide +kernel)) (fun _ _ _ _ _ => (pgTup K (n := 2) (pgs_cons (pg_name (i := 5) sc__law_second.nd rfl (.inl rfl)) (pgs_cons (pgTup K (n := 2) (pgs_cons (pg_name (i := 6) sc__law_second.nd rfl (.inl rfl)) (pgs_cons (pg_name (i := 7) sc__law_second.nd rfl (.inl rfl)) pgs_nil))) pgs_nil)))) (fun _ _ _ _ _ => pts_nil) (fun _ _ _ _ _ => (pe_tup (pa_cons (pe_op op_sub (pv 5) (pv 7)) (pa_cons (pe_op op_sub (pv 5) (pv 6)) pa_nil))))) pa_nil)))))), ?_⟩
    walk_at "vc"
    have hs4 := hsh.n4
    refine dip_do hB (by omega) (by decide) (small1000' (by decide)) fun wy o1 wy0 wy1 hB1 => ⟨rfl, if_d (fun _ => ?_) (fun _ => ?_)⟩
    · exact ⟨a, p, sh, n + 20, rfl, Br.put hB1, by omega, hsh, sqT_of (hB.keep (But.refl.at (o := o1)) hp), fun b2 cx H2 b2' B2 _ hb2 hcx => q b2 cx H2 (But.refl.at.trans b2') (B2.mono (by omega)) hb2 hcx⟩
    have B1 := Br.put (a := a) (H := H) hB1
    have b1 : But a H (upd H a o1) := But.refl.at
    generalize upd H a o1 = H1 at *
    have hp1 := hB.keep b1 hp
    have hb1 := hB.boxAt b1 hb
    refine ⟨⟨_, sqT_of hp1⟩, ?_⟩
    refine comp_t (xs := sh.map V.int) (fun D i H' => Same H1 H' ∧ H' D = some (.lst (((sh.take i).map fun b => (2 : Int) ^ b.toNat - 1).map V.int))) (fun D nD => ⟨same_new nD, upd_same⟩) (fun D i H' nD _ h => sqT_of (h.1 _ _ hp1)) ?_ ?_
    · rintro D i x H' nD hx ⟨s2, hD⟩
      rw [List.getElem?_map] at hx
      obtain ⟨v, hv, rfl⟩ := Option.map_eq_some_iff.mp hx
      have hi := (List.getElem?_eq_some_iff.mp hv).1
      obtain ⟨v0, v1⟩ := hsh.bt v (List.mem_of_getElem? hv)
      walk_at "vc"
      refine ⟨v.toNat, by omega, by omega, _, hD, lt_size (by rw [List.length_map, List.length_map, List.length_take]; omega), s2.own nD, ?_⟩
      rw [upd_same, take_snocG hv, List.map_append, List.map_append]
      rfl
    · rintro D H2 nD ⟨s2, hD⟩
      rw [List.length_map, List.take_length] at hD
      obtain ⟨xs, hx, ht⟩ := hb1
      have hx2 := s2 _ _ hx
      walk_at "vc"
      have hz : sh.length = min ((sh.map fun b => (2 : Int) ^ b.toNat - 1).map V.int).length xs.length := by rw [List.length_map, List.length_map, ht.lenB, hbs.len, Nat.min_self]
      refine ⟨_, sqL_of hD, _, sqT_of hx2, ?_⟩
      refine comp_w (walk_zipM (ka := true) (kb := false) hz) (fun E i H' => Same H2 H' ∧ ∃ zs, H' E = some (.lst zs) ∧ TupsAt H' zs (((mirB sh bx).take i).map prV)) (fun E nE => ⟨same_new nE, [], upd_same, .nil⟩) (fun E i H' nE hi h => ⟨sqL_of (h.1 _ _ hD), sqT_of (h.1 _ _ hx2)⟩) ?_ ?_
      · rintro E i x H3 H4 nE hi ⟨s3, zs, hE, hzs⟩ ⟨T1, x1, x2, rfl, nT, rfl, g1, g2⟩
        obtain ⟨a2, rfl, hi2, ha2⟩ := ((ht.same s2).same (s3.new (o := .tup [x1, x2]) nT)).pair g2
        have e1 : x1 = .int (2 ^ (sh.getD i 0).toNat - 1) := by
          have : ((sh.map fun b => (2 : Int) ^ b.toNat - 1).map V.int)[i]? = some x1 := g1
          rw [show ((sh.map fun b => (2 : Int) ^ b.toNat - 1).map V.int)[i]? = some (V.int (2 ^ (sh.getD i 0).toNat - 1)) by rw [List.getElem?_map, List.getElem?_map, List.getElem?_eq_getElem hi, List.getD_eq_getElem?_getD, List.getElem?_eq_getElem hi]; rfl] at this
          exact (Option.some.inj this).symm
        subst e1
        walk_at "vc"
        refine ⟨_, sqT_of upd_same, rfl, _, _, rfl, _, _, rfl, a2, rfl, _, sqT_of ha2, rfl, _, _, rfl, _, _, rfl, rfl, rfl, ?_⟩
        refine ⟨_, rfl, _, rfl, _, rfl, _, rfl, le_size (by decide), fun p2 np2 => ?_⟩
        refine ⟨zs, upd_new np2 (upd_new nT hE), lt_size (by rw [hzs.lenB, List.length_take, mirB_len]; omega), ((s3.new nT).new np2).own nE, _, upd_same, ?_⟩
        rw [take_snocG (mirB_at hi), List.map_append]
        exact ((((hzs.same (same_new nT)).same (same_new np2)).snoc upd_same).put (upd_new np2 (upd_new nT hE)))
      · rintro E H3 nE ⟨s3, zs, hE, hzs⟩
        walk_at "vc"
        rw [List.take_of_length_le (by rw [mirB_len]; exact Nat.le_refl _)] at hzs
        exact ⟨_, sqL_of hE, fun r nr => q r _ _ ((b1.trans (.of_same (s2.trans s3))).new nr) ((((B1.same s2).same s3).new nr).mono (by omega)) ⟨zs, upd_same, hzs.same (same_new nr)⟩ (mirB_ok hsh hbs)⟩)
def sp__law_finer (K : PySem.W.Frag) : Sp := fun vs H Q _ => ∃ (a p : Addr) (sh : List Int) (n : Nat) (most : Int), vs = [.ref a, .ref p, .int most] ∧ Br a n H ∧ n ≤ 2 ^ 56 ∧ ShOk sh ∧ sh.sum ≤ most ∧ most ≤ 240 ∧ H p = some (.tup (sh.map V.int)) ∧
  ∀ r m t (more : List Int) H', But a H H' → Br a (n + 6000) H' → H' r = some (.tup [.ref m, .str (sg t)]) → H' m = some (.tup (more.map V.int)) → more.length = sh.length → (∀ k, k < sh.length → 0 ≤ more.getD k 0 ∧ sh.getD k 0 + more.getD k 0 ≤ 120 ∧ (t.count (97 + k) : Int) = more.getD k 0) → (∀ c ∈ t, 97 ≤ c ∧ c < 97 + sh.length) → sh.sum + (t.length : Int) ≤ most → Q (.ref r) H'
theorem O__law_finer (T : Txt K mg) : Ok P w K mg base CX0 3 "_law_finer" ["_law_brook_here", "_law_shape_here", "_law_most"] (sp__law_finer K) :=
  Ok.mk0 T.f__law_finer T.g__law_finer sc__law_finer (by rintro vs H Q E ⟨_, _, _, _, _, rfl, _⟩; rfl) (fun _ _ _ _ _ _ us hl => match us, hl with | [_, _, _], _ => rfl) (fun f cdv A outer s H vs Q E hr h => by
    obtain ⟨a, p, sh, n, most, rfl, hB, hn, hsh, hm1, hm2, hp, q⟩ := h
    refine ⟨_, (pss_cons (ps_par (i := 3) (j := 4) rfl sc__law_finer.nd rfl rfl (by decide) rfl rfl (pa_cons (pe_lst pa_nil) (pa_cons (pe_op op_sub (pv 2) (pe_callB (sumT K) (by rfl) T.n_sum (by decide +kernel) (pa_cons (pv 1) pa_nil))) pa_nil)) (by rfl))
    (pss_cons (ps_for PassesOwn.never rfl (piT K (pv 1)) (pg_name (i := 5) sc__law_finer.nd rfl (.inl rfl)) (pss_cons (ps_expr (bmK K PySem.F.plainAttrs_list PySem.F.slot_list_append PySem.F.type_list_append mt_append (pv 3) (pa_cons (cal (O__law_dip T) hr (pa_cons (pv 0) (pa_cons (pe_op op_add (pe_callB min2 (by rfl) T.n_min (by decide +kernel) (pa_cons (pv 4) (pa_cons (pe_op op_sub pe_int (pv 5)) pa_nil))) pe_int) pa_nil))) pa_nil)))
    (pss_one (ps_set (i := 4) sc__law_finer.nd rfl (.inl rfl) (pe_op op_sub (pv 4) (pe_ix (ixL K) (pv 3) (pe_un un_neg pe_int) (fun _ _ => rfl)))))))
    (pss_cons (ps_par (i := 6) (j := 7) rfl sc__law_finer.nd rfl rfl (by decide) rfl rfl (pa_cons (pe_callTy (listOf K) (by rfl) T.n_list (by decide +kernel) (pa_cons (pv 3) pa_nil)) (pa_cons pe_str pa_nil)) (by rfl))
    (pss_cons (ps_while PassesOwn.never (pt_cmpR op_gt (pe_callB (sumL K) (by rfl) T.n_sum (by decide +kernel) (pa_cons (pv 6) pa_nil)) pe_int (nomark _)) (pss_cons (ps_set (i := 8) sc__law_finer.nd rfl (.inl rfl) (cal (O__law_dip T) hr (pa_cons (pv 0) (pa_cons (pe_callB (lenU K) (by rfl) T.n_len (by decide +kernel) (pa_cons (pv 6) pa_nil)) pa_nil))))
    (pss_cons (ps_while PassesOwn.never (pt_cmpR op_eq (pe_ix (ixL K) (pv 6) (pv 8) (fun _ _ => rfl)) pe_int (nomark _)) (pss_one (ps_set (i := 8) sc__law_finer.nd rfl (.inl rfl) (pe_op op_mod (pe_op op_add (pv 8) pe_int) (pe_callB (lenU K) (by rfl) T.n_len (by decide +kernel) (pa_cons (pv 6) pa_nil))))))
    (pss_cons (ps_set (i := 7) sc__law_finer.nd rfl (.inl rfl) (pe_op op_add_str (pv 7) (pe_ix ix_str pe_str (pv 8) (fun _ _ => rfl))))
    (pss_one (ps_asg (pe_op op_sub (pe_ix (ixL K) (pv 6) (pv 8) (fun _ _ => rfl)) pe_int) (pg_sub (pv 6) (pv 8) set_list)))))))
    (pss_one (ps_ret (pe_tup (pa_cons (pe_callTy (tupleOf K) (by rfl) T.n_tuple (by decide +kernel) (pa_cons (pv 3) pa_nil)) (pa_cons (pv 7) pa_nil))))))))), ?_⟩
    walk_at "vc"
    have hs4 := hsh.n4
    have hs1 := hsh.n1
    refine ⟨Nat.zero_le _, fun ML nML => ⟨sh, sqT_new (sqT_of hp) nML, ⟨_, sqT_new (sqT_of hp) nML⟩, ?_⟩⟩
    have nMa := hB.apart nML
    refine loop_t (xs := sh.map V.int) (fun i σ' H' => ∃ (ms : List Int) (y5 : Option V), σ' = [some (.ref a), some (.ref p), some (.int most), some (.ref ML), some (.int (most - sh.sum - ms.sum)), y5, none, none, none] ∧ But a H H' ∧ Br a (n + 20 * i) H' ∧ H' ML = some (.lst (ms.map V.int)) ∧ ms.length = i ∧ (∀ k, k < i → 0 ≤ ms.getD k 0 ∧ sh.getD k 0 + ms.getD k 0 ≤ 120) ∧ sh.sum + ms.sum ≤ most)
      ⟨[], none, by rw [show most - sh.sum - ([] : List Int).sum = most - sh.sum by show most - sh.sum - 0 = _; omega], But.refl.new nML, hB.new nML, upd_same, rfl, (fun k hk => absurd hk (by omega)), by show sh.sum + 0 ≤ most; omega⟩ (by rintro i σ' H' _ ⟨_, _, _, b, _⟩; exact sqT_of (hB.keep b hp)) ?_ ?_
    · rintro i x σ' H1 hx ⟨ms, y5, rfl, b1, B1, hM, hml, hmk, hms⟩
      have hi : i < sh.length := by
        have := (List.getElem?_eq_some_iff.mp hx).1
        rw [List.length_map] at this
        exact this
      have ex : x = .int (sh.getD i 0) := Option.some.inj (hx.symm.trans (ints_at hi))
      subst ex
      obtain ⟨t0, t1⟩ := hsh.at hi
      walk_at "vc"
      refine ⟨tyv_l hM, dip_do B1 (by omega) (by split <;> omega) (small1000' (by split <;> omega)) fun v o1 v0 v1 hB1 => ?_⟩
      have hM1 : (upd H1 a o1) ML = _ := upd_at nMa hM
      have hat : atI (ms.map V.int ++ [V.int v]) (-1) = some (V.int v) := by
        have := at_last (ns := ms ++ [v]) (v := v) (by rw [List.length_append, List.length_singleton]; omega) (by
          rw [List.length_append, List.length_singleton, Nat.add_sub_cancel, List.getElem?_append_right (Nat.le_refl _), Nat.sub_self]
          rfl)
        rw [List.map_append] at this
        exact this
      refine ⟨_, hM1, lt_size (by rw [List.length_map]; omega), _, sqL_of upd_same, _, hat, v, rfl, ?_⟩
      · have hv1 : v ≤ 120 - sh.getD i 0 ∧ v ≤ most - sh.sum - ms.sum := by split at v1 <;> omega
        refine ⟨ms ++ [v], ?_, (b1.at).mine nML, ((Br.put hB1).at nMa).mono (by omega), by rw [upd_same, List.map_append]; rfl, by rw [List.length_append, hml]; rfl, fun k hk => ?_, ?_⟩
        · rw [List.sum_append, List.sum_singleton]
          omega
        · by_cases e : k < i
          · rw [getD_snoc_lt (by omega)]
            exact hmk k e
          · have : k = i := by omega
            subst this
            rw [getD_snoc_eq hml.symm]
            omega
        · rw [List.sum_append, List.sum_singleton]
          omega
    · rintro σ' H1 ⟨ms, y5, rfl, b1, B1, hM, hml, hmk, hms⟩
      rw [List.length_map] at hml hmk B1
      walk_at "vc"
      refine ⟨ms.map V.int, .inl (sqL_of hM), fun LV nLV => ?_⟩
      have nLa : LV ≠ a := B1.apart nLV
      have nLM : ML ≠ LV := ne_of_none hM nLV
      have hms0 := sumNN ms fun x hx => by
        obtain ⟨k, hk, rfl⟩ := memG hx
        exact (hmk k (by omega)).1
      have nL0 : H LV = none := b1.fresh nLa nLV
      refine ⟨fun m σ' H' => ∃ (t : List Nat) (y8 : Option V), (m : Int) = ms.sum - (t.length : Int) ∧ σ' = [some (.ref a), some (.ref p), some (.int most), some (.ref ML), some (.int (most - sh.sum - ms.sum)), y5, some (.ref LV), some (.str (sg t)), y8] ∧ But a H H' ∧ Br a (n + 20 * sh.length + 20 * t.length) H' ∧ H' ML = some (.lst (ms.map V.int)) ∧ H' LV = some (.lst ((lft ms t).map V.int)) ∧ (∀ c ∈ t, 97 ≤ c ∧ c < 97 + ms.length) ∧ (∀ k, k < ms.length → 0 ≤ (lft ms t).getD k 0),
        ⟨ms.sum.toNat, [], none, by show ((ms.sum.toNat : Nat) : Int) = ms.sum - 0; omega, rfl, b1.new nLV, (B1.new nLV).mono (by omega), upd_new nLV hM, by rw [lft_nil]; exact upd_same, (fun c hc => by cases hc), fun k hk => by rw [lft_nil]; exact (hmk k (by omega)).1⟩, ?_⟩
      rintro m σ' H2 ⟨t, y8, hm, rfl, b2, B2, hM2, hL, ha, h0⟩
      have hsl := lft_sum ha
      have htl : (t.length : Int) ≤ ms.sum := by omega
      have ht240 : t.length ≤ 240 := by
        have := sumNN sh fun b hb => by have := (hsh.bt b hb).1; omega
        omega
      walk_at "vc"
      refine ⟨LV, _, rfl, sqL_of hL, _, rfl, if_d (fun hpos => ?_) (fun hz => ?_)⟩
      · refine ⟨_, fun _ _ h => h, _, .inl ⟨_, sqL_of hL, rfl⟩, ?_⟩
        rw [List.length_map, lft_len]
        refine dip_do B2 (by omega) (by omega) (small1000' (by omega)) fun ax o2 ax0 ax1 hB2 => ?_
        have B3 := Br.put (a := a) (H := H2) hB2
        have b3 : But a H (upd H2 a o2) := b2.at
        have hM3 : (upd H2 a o2) ML = _ := upd_at nMa hM2
        have hL3 : (upd H2 a o2) LV = _ := upd_at nLa hL
        generalize upd H2 a o2 = H3 at *
        obtain ⟨kk, hk1, hk2⟩ := sum_pos_ex (lft ms t) (fun z hz => by
          obtain ⟨j, hj, rfl⟩ := memG hz
          exact h0 j (by rw [lft_len] at hj; exact hj)) (by omega)
        rw [lft_len] at hk1
        obtain ⟨xa, rfl⟩ := Int.eq_ofNat_of_zero_le ax0
        have hxa : xa < ms.length := by omega
        refine ⟨fun m' σ' H' => ∃ x : Nat, x < ms.length ∧ σ' = [some (.ref a), some (.ref p), some (.int most), some (.ref ML), some (.int (most - sh.sum - ms.sum)), y5, some (.ref LV), some (.str (sg t)), some (.int (x : Int))] ∧ H' = H3 ∧ (lft ms t).getD ((x + m') % ms.length) 0 ≠ 0,
          ⟨kk + ms.length - xa, xa, hxa, rfl, rfl, by rw [show xa + (kk + ms.length - xa) = kk + ms.length by omega, Nat.add_mod_right, Nat.mod_eq_of_lt hk1]; omega⟩, ?_⟩
        rintro m' σ' H' ⟨x, hx, rfl, rfl, hm'⟩
        walk_at "vc"
        refine ⟨_, sqL_of hL3, _, at_nat rfl (ints_at (by rw [lft_len]; exact hx)), rfl, if_d (fun e => ?_) (fun e => ?_)⟩
        · have e0 := V.int.inj e
          have m0 : m' ≠ 0 := fun z => hm' (by rw [z, Nat.add_zero, Nat.mod_eq_of_lt hx]; exact e0)
          refine ⟨_, fun _ _ h => h, _, .inl ⟨_, sqL_of hL3, rfl⟩, by rw [List.length_map, lft_len]; omega, m' - 1, by omega, (x + 1) % ms.length, Nat.mod_lt _ (by omega), by rw [List.length_map, lft_len]; rfl, rfl, ?_⟩
          rw [Nat.mod_add_mod, show x + 1 + (m' - 1) = x + m' by omega]
          exact hm'
        · have hx0 : (lft ms t).getD x 0 ≠ 0 := fun z => e (by rw [z])
          have hx1 := h0 x hx
          have ix : ixN ((lft ms t).map V.int).length (x : Int) = some x := by
            unfold ixN
            rw [List.length_map, lft_len, if_pos (by omega), if_pos (by omega), Int.toNat_natCast]
          have sz : (sg t).length + 1 ≤ sizeLine := le_size (by rw [sg_len]; omega)
          refine ⟨le_size (by decide), _, at_nat rfl (by rw [Array.getElem?_toList]; exact abcd_get (by omega)), sz, _, sqL_of hL3, _, at_nat rfl (ints_at (by rw [lft_len]; exact hx)), _, rfl, _, hL3, _, ix, m - 1, by omega, t ++ [97 + x], by rw [List.length_append, List.length_singleton]; omega, ?_, b3.mine nL0, (B3.at nLa).mono (by rw [List.length_append, List.length_singleton]; omega), upd_at nLM hM3, by rw [upd_same, lft_snoc hx, List.map_set], fun c hc => ?_, fun k hk => ?_⟩
          · rw [show (sg t ++ { cps := #[97 + x] } : Str) = sg (t ++ [97 + x]) from sg_app t [97 + x]]
          · rcases List.mem_append.mp hc with h | h
            · exact ha c h
            · rw [List.mem_singleton.mp h]
              omega
          · rw [lft_snoc hx, set_getD (by rw [lft_len]; exact hx)]
            split
            · omega
            · exact h0 k hk
      · refine ⟨_, sqL_of hM2, fun m2 nm2 => ⟨le_size (by decide), fun r nr => ?_⟩⟩
        have z : ∀ k, k < ms.length → ms.getD k 0 = (t.count (97 + k) : Nat) := fun k hk => by
          have := sum_zero_all (lft ms t) (fun x hx => by
            obtain ⟨j, hj, rfl⟩ := memG hx
            exact h0 j (by rw [lft_len] at hj; exact hj)) (by omega) _ (gMem (k := k) (by rw [lft_len]; exact hk))
          rw [lft_get hk] at this
          omega
        exact q r m2 t ms _ ((b2.new nm2).new nr) (((B2.new nm2).new nr).mono (by omega)) upd_same (upd_new nr upd_same) hml (fun k hk => ⟨(hmk k hk).1, (hmk k hk).2, (z k (by omega)).symm⟩) (fun c hc => by rw [← hml]; exact ha c hc) (by omega))

end
section
variable {P : Program} {w : World} {K : PySem.W.Frag} {mg : Str → Option Value} {base : Heap}
def dueV (L : List Int) (i : Nat) : V := match L[i]? with
  | some v => .int v
  | none => .non
theorem nth_due {l : List Nat} {bx : List (Int × Int)} {i : Nat} {v : V} {L : List Int} (hL : listB (inB l bx) (2 ^ l.length) = L) (h : NthIs l bx (i : Int) v) : v = dueV L i := by
  have hlen := listB_len (inB l bx) (2 ^ l.length)
  rw [hL] at hlen
  rcases h with ⟨h1, rfl⟩ | ⟨W, W0, W1, hin, hc, rfl⟩
  · unfold dueV
    rw [List.getElem?_eq_none (by omega)]
  · have hW' : ((W.toNat : Nat) : Int) = W := by omega
    have hlt : i < L.length := by
      have h1 := count_mono (inB l bx) (a := W.toNat + 1) (b := 2 ^ l.length) (by rw [pow_nat] at W1; omega)
      rw [countK, Int.zero_add, hW', hin, if_pos rfl] at h1
      omega
    unfold dueV
    have hg := List.getElem?_eq_getElem hlt
    rw [hg]
    have hx : (listB (inB l bx) (2 ^ l.length))[i]? = some L[i] := by rw [hL]; exact hg
    obtain ⟨a, _, b, d⟩ := listB_get _ _ _ _ hx
    have e := count_uniq (p := inB l bx) (a := W.toNat) (b := (L[i]).toNat) (by rw [hW']; exact hin) (by rw [show (((L[i]).toNat : Nat) : Int) = L[i] by omega]; exact b) (by rw [hc, d])
    show V.int W = V.int L[i]
    congr 1
    omega
theorem due_data {K : PySem.W.Frag} {p : Int → Bool} {m : Nat} {L : List Int} (hL : listB p m = L) (hm : m ≤ 512) (i : Nat) : ∃ dd, (∀ H, Dp K H (dueV L i) dd) ∧ DOk 0 300 dd := by
  unfold dueV
  cases h : L[i]? with
  | none => exact ⟨.none, fun H => .non, DOk.none.mono (by decide) (by decide)⟩
  | some v =>
    have hv : v ∈ L := List.mem_of_getElem? h
    rw [← hL] at hv
    obtain ⟨a, b, _⟩ := listB_mem.mp hv
    have h20 : (2 : Int) ^ 20 = 1048576 := by decide
    have hb : v < 2 ^ 20 := by rw [h20]; omega
    exact ⟨.int v, fun H => .int v, (DOk.int (k := 20) (nn_lt a hb) (by decide) (by decide)).mono (by decide) (by decide)⟩
theorem due_at {L : List Int} {i m : Nat} (h : i < m) : atI (L.map V.int ++ List.replicate m V.non) (i : Int) = some (dueV L i) := by
  refine at_nat rfl ?_
  unfold dueV
  by_cases hi : i < L.length
  · rw [List.getElem?_append_left (by rw [List.length_map]; exact hi), List.getElem?_map, List.getElem?_eq_getElem hi]
    rfl
  · have e : L[i]? = none := List.getElem?_eq_none (by omega)
    rw [List.getElem?_append_right (by rw [List.length_map]; omega), e, List.length_map, List.getElem?_replicate, if_pos (by omega)]
theorem due_out {L : List Int} {i : Nat} (h : L.length ≤ i) : dueV L i = .non := by
  unfold dueV
  rw [List.getElem?_eq_none h]
theorem spot_yes {p : Int → Bool} {m i : Nat} {L : List Int} (hL : listB p m = L) (hi : i < m) (h : p (i : Int) = true) : L[(countK p 0 i).toNat]? = some (i : Int) := by
  obtain ⟨j, hj⟩ := List.getElem?_of_mem (listB_mem.mpr ⟨by omega, by omega, h⟩ : (i : Int) ∈ listB p m)
  have e := (listB_get p m j i hj).2.2.2
  rw [Int.toNat_natCast] at e
  rw [e, Int.toNat_natCast, ← hL]
  exact hj
theorem spot_no {p : Int → Bool} {m i j : Nat} {L : List Int} {v : Int} (hL : listB p m = L) (h : ¬ p (i : Int) = true) (hj : L[j]? = some v) : v ≠ (i : Int) := by
  rintro rfl
  rw [← hL] at hj
  exact h (listB_get p m j _ hj).2.2.1
theorem countK_nn (p : Int → Bool) (m : Nat) : 0 ≤ countK p 0 m := by
  rw [← listB_len]
  omega
theorem wok_more {l t : List Nat} {n : Nat} (h : WOk l n) (ht : ∀ c ∈ t, 97 ≤ c ∧ c < 97 + n) (hc : ∀ k, k < n → l.count (97 + k) + t.count (97 + k) ≤ 120) (hl : l.length + t.length ≤ 240) : WOk (l ++ t) n := by
  have n4 := h.n4
  refine ⟨h.n1, h.n4, fun k hk => ?_, fun k hk => ?_, fun k h1 h2 => ?_, fun c hc => ?_, ?_⟩
  · rw [List.count_append]
    have := h.lo k hk
    omega
  · rw [List.count_append]
    exact hc k hk
  · rw [List.count_append, h.no k h1 h2, List.count_eq_zero.mpr (fun hm => ?_)]
    have := ht _ hm
    omega
  · rcases List.mem_append.mp hc with g | g
    · exact h.al c g
    · have := ht c g
      omega
  · rw [List.length_append]
    exact hl
theorem wide_ok {l t : List Nat} {bx : List (Int × Int)} {more : List Int} {n : Nat} (h : BoxOk l n bx) (hm : ∀ k, k < n → (t.count (97 + k) : Int) = more.getD k 0) : BoxOk (l ++ t) n (wideB bx more) := by
  have g : ∀ k, k < n → (wideB bx more).getD k (0, 0) = ((bx.getD k (0, 0)).1 * 2 ^ t.count (97 + k), ((bx.getD k (0, 0)).2 + 1) * 2 ^ t.count (97 + k) - 1) := fun k hk => by
    rw [wideB_get (by rw [h.len]; exact hk), ← hm k hk, Int.toNat_natCast]
  refine ⟨by rw [wideB_len, h.len], fun k hk => ?_, fun k hk => ?_, fun k hk => ?_⟩ <;> rw [g k hk] <;> have h0 := h.lo k hk <;> have h1 := h.le k hk <;> have h2 := h.hi k hk <;> have hp := pow_pos' (t.count (97 + k))
  · exact Int.mul_nonneg h0 (Int.le_of_lt hp)
  · have : (bx.getD k (0, 0)).1 * 2 ^ t.count (97 + k) < ((bx.getD k (0, 0)).2 + 1) * 2 ^ t.count (97 + k) := Int.mul_lt_mul_of_pos_right (by omega) hp
    show _ * _ ≤ _ * _ - 1
    omega
  · have : ((bx.getD k (0, 0)).2 + 1) * 2 ^ t.count (97 + k) ≤ 2 ^ l.count (97 + k) * 2 ^ t.count (97 + k) := Int.mul_le_mul_of_nonneg_right (by omega) (Int.le_of_lt hp)
    rw [List.count_append, Int.pow_add]
    show _ * _ - 1 < _
    omega
theorem inV_ints (i : Int) : ∀ L : List Int, inV (.int i) (L.map V.int) = decide (i ∈ L)
  | [] => rfl
  | c :: L => by
    have h := inV_ints i L
    unfold inV at h ⊢
    rw [List.map_cons, List.any_cons, h, show eqV (V.int c) (V.int i) = decide (c = i) by rfl, Bool.eq_iff_iff, Bool.or_eq_true, decide_eq_true_eq, decide_eq_true_eq, decide_eq_true_eq, List.mem_cons]
    exact ⟨fun h => h.imp (fun e => e.symm) id, fun h => h.imp (fun e => e.symm) id⟩
theorem in_ints {H : Hp} {q : Addr} {L : List Int} {i : Int} {Q : VK} (h : SqL K H q (L.map V.int)) (k : Q (.bl (decide (i ∈ L))) H) : rIn K false (.int i) (.ref q) H Q := by
  refine ⟨q, _, rfl, .inl h, rfl, (by rw [List.all_map]; exact List.all_eq_true.mpr fun _ _ => rfl), ?_⟩
  rw [inV_ints]
  exact k
theorem fine_nat {T : Nat} {w r : Int} (w0 : 0 ≤ w) (r0 : 0 ≤ r) : (w * 2 ^ T + r).toNat = w.toNat * 2 ^ T + r.toNat := by
  obtain ⟨a, rfl⟩ := Int.eq_ofNat_of_zero_le w0
  obtain ⟨b, rfl⟩ := Int.eq_ofNat_of_zero_le r0
  rw [pow_nat, Int.toNat_natCast, Int.toNat_natCast, ← Int.natCast_mul, ← Int.natCast_add, Int.toNat_natCast]
theorem fine_rank {p q : Int → Bool} {T : Nat} (hq : ∀ v : Int, 0 ≤ v → q v = p (v / ((2 ^ T : Nat) : Int))) {w r : Int} (w0 : 0 ≤ w) (r0 : 0 ≤ r) (r1 : r < 2 ^ T) : countK q 0 (w * 2 ^ T + r).toNat = countK p 0 w.toNat * 2 ^ T + r * (if p w = true then 1 else 0) := by
  rw [pow_nat] at r1
  rw [fine_nat w0 r0, count_fine_rest (Nat.two_pow_pos T) hq _ _ (by omega), pow_nat, show ((w.toNat : Nat) : Int) = w by omega, show ((r.toNat : Nat) : Int) = r by omega]
  congr 1
  split
  · rw [Int.mul_one]
  · rw [Int.mul_zero]
theorem fine_total {p q : Int → Bool} {N T : Nat} (hq : ∀ v : Int, 0 ≤ v → q v = p (v / ((2 ^ T : Nat) : Int))) : countK q 0 (2 ^ (N + T)) = countK p 0 (2 ^ N) * 2 ^ T := by
  rw [Nat.pow_add, count_fine (Nat.two_pow_pos T) hq, pow_nat]
theorem fine_div {T : Nat} {w r : Int} (r0 : 0 ≤ r) (r1 : r < 2 ^ T) : (w * 2 ^ T + r) / ((2 ^ T : Nat) : Int) = w := by
  have h := pow_pos' T
  rw [← pow_nat, Int.add_comm, Int.add_mul_ediv_right _ _ (by omega), Int.ediv_eq_zero_of_lt r0 r1, Int.zero_add]
theorem fine_nth {p : Int → Bool} {l' : List Nat} {bx' : List (Int × Int)} {N T j : Nat} {L : List Int} {v0 r : Int} {v : V} (hq : ∀ v : Int, 0 ≤ v → inB l' bx' v = p (v / ((2 ^ T : Nat) : Int))) (hl : l'.length = N + T) (hL : listB p (2 ^ N) = L) (hj : L[j]? = some v0) (r0 : 0 ≤ r) (r1 : r < 2 ^ T) (h : NthIs l' bx' ((j : Int) * 2 ^ T + r) v) : v = .int (v0 * 2 ^ T + r) := by
  have hjl := (List.getElem?_eq_some_iff.mp hj).1
  have hlen := listB_len p (2 ^ N)
  rw [hL] at hlen
  rw [← hL] at hj
  obtain ⟨a0, a1, a2, a3⟩ := listB_get p _ _ _ hj
  have hp := pow_pos' T
  have hv0 : 0 ≤ v0 * 2 ^ T + r := Int.add_nonneg (Int.mul_nonneg a0 (Int.le_of_lt hp)) r0
  rcases h with ⟨h1, _⟩ | ⟨W, W0, W1, hin, hc, rfl⟩
  · rw [hl, fine_total hq, ← hlen] at h1
    have : ((j : Int) + 1) * 2 ^ T ≤ (L.length : Int) * 2 ^ T := Int.mul_le_mul_of_nonneg_right (by omega) (Int.le_of_lt hp)
    rw [Int.add_mul, Int.one_mul] at this
    omega
  · have hW' : ((W.toNat : Nat) : Int) = W := by omega
    have hV' : (((v0 * 2 ^ T + r).toNat : Nat) : Int) = v0 * 2 ^ T + r := by omega
    have e := count_uniq (p := inB l' bx') (a := W.toNat) (b := (v0 * 2 ^ T + r).toNat) (by rw [hW']; exact hin) (by rw [hV', hq _ hv0, fine_div r0 r1]; exact a2) (by rw [hc, fine_rank hq a0 r0 r1, a3, if_pos a2, Int.mul_one])
    congr 1
    omega
theorem fine_none {p : Int → Bool} {l' : List Nat} {bx' : List (Int × Int)} {N T : Nat} {L : List Int} {r : Int} {v : V} (hq : ∀ v : Int, 0 ≤ v → inB l' bx' v = p (v / ((2 ^ T : Nat) : Int))) (hl : l'.length = N + T) (hL : listB p (2 ^ N) = L) (r0 : 0 ≤ r) (h : NthIs l' bx' ((L.length : Int) * 2 ^ T + r) v) : v = .non := by
  have hlen := listB_len p (2 ^ N)
  rw [hL] at hlen
  rcases h with ⟨_, h1⟩ | ⟨W, W0, W1, hin, hc, _⟩
  · exact h1
  · have h2 := count_mono (inB l' bx') (a := W.toNat + 1) (b := 2 ^ l'.length) (by rw [pow_nat] at W1; omega)
    rw [countK, Int.zero_add, show ((W.toNat : Nat) : Int) = W by omega, if_pos hin, hc, hl, fine_total hq, ← hlen] at h2
    omega
theorem prodI_pos : ∀ (xs : List Int), (∀ x ∈ xs, 0 < x) → 0 < prodI xs
  | [], _ => Int.zero_lt_one
  | x :: xs, h => Int.mul_pos (h x (.head _)) (prodI_pos xs fun y hy => h y (.tail _ hy))
theorem box_some {l : List Nat} {n : Nat} {bx : List (Int × Int)} (hW : WOk l n) (hok : BoxOk l n bx) : 0 < countK (inB l bx) 0 (2 ^ l.length) := by
  rw [← box_total hW hok]
  refine prodI_pos _ fun x hx => ?_
  obtain ⟨pr, hp, rfl⟩ := List.mem_map.mp hx
  obtain ⟨k, hk⟩ := List.getElem?_of_mem hp
  have hk' := (List.getElem?_eq_some_iff.mp hk).1
  have h := hok.le k (by rw [← hok.len]; exact hk')
  rw [List.getD_eq_getElem?_getD, hk] at h
  have : pr.1 ≤ pr.2 := h
  omega
def sp__law_right : Sp := fun vs H Q _ => ∃ (a p : Addr) (sh : List Int) (n : Nat) (most : Int), vs = [.ref a, .ref p, .int most] ∧ Br a n H ∧ n ≤ 2 ^ 55 ∧ ShOk sh ∧ sh.sum ≤ 9 ∧ sh.sum ≤ most ∧ most ≤ 240 ∧ H p = some (.tup (sh.map V.int)) ∧ ∀ H', But a H H' → Br a (n + 40000) H' → Q (.bl true) H'
theorem O__law_right (T : Txt K mg) : OkG P w K mg base CX0 8 "_law_right" ["_law_brook_here", "_law_shape_here", "_law_most"] sp__law_right :=
  OkG.mk0 T.f__law_right T.g__law_right sc__law_right (by rintro vs H Q E ⟨_, _, _, _, _, rfl, _⟩; rfl) (fun _ _ _ _ _ _ us hl => match us, hl with | [_, _, _], _ => rfl) (fun f cdv A outer s H vs Q E hr gd h => by
    obtain ⟨a, p, sh, n, most, rfl, hB, hn, hsh, hsm, hm1, hm2, hp, q⟩ := h
    refine ⟨_, (pss_cons (ps_asg (pe_tup (pa_cons (cal (O__law_letters T) hr (pa_cons (pv 0) (pa_cons (pv 1) pa_nil))) (pa_cons (cal (O__law_box T) hr (pa_cons (pv 0) (pa_cons (pv 1) pa_nil))) pa_nil))) (pgTup K (n := 2) (pgs_cons (pg_name (i := 3) sc__law_right.nd rfl (.inl rfl)) (pgs_cons (pg_name (i := 4) sc__law_right.nd rfl (.inr rfl)) pgs_nil))))
    (pss_cons (ps_asg (pe_tup (pa_cons (mkO (O_Weave___init__ T) T.m_Weave T.g_Weave hr (pa_cons (pv 3) pa_nil)) (pa_cons (pe_op op_oneShl pe_int (pe_callB (sumT K) (by rfl) T.n_sum (by decide +kernel) (pa_cons (pv 1) pa_nil))) pa_nil))) (pgTup K (n := 2) (pgs_cons (pg_name (i := 5) sc__law_right.nd rfl (.inr rfl)) (pgs_cons (pg_name (i := 6) sc__law_right.nd rfl (.inl rfl)) pgs_nil))))
    (pss_cons (ps_set (i := 7) sc__law_right.nd rfl (.inl rfl) (cal (O__law_listed T) hr (pa_cons (pv 3) (pa_cons (pv 1) (pa_cons (pv 4) pa_nil)))))
    (pss_cons (ps_set (i := 8) sc__law_right.nd rfl (.inl rfl) (cal (O__law_second T) hr (pa_cons (pv 0) (pa_cons (pv 1) (pa_cons (pv 4) pa_nil)))))
    (pss_cons (ps_set (i := 9) sc__law_right.nd rfl (.inl rfl) (pe_lst (pa_cons (pe_tup (pa_cons (pv 4) (pa_cons (pv 7) pa_nil))) (pa_cons (pe_tup (pa_cons (pv 8) (pa_cons (cal (O__law_listed T) hr (pa_cons (pv 3) (pa_cons (pv 1) (pa_cons (pv 8) pa_nil)))) pa_nil))) pa_nil))))
    (pss_cons (ps_for PassesOwn.never rfl (pi_range1 (by rfl) T.n_range (pa_cons (pe_op op_add (pe_callB max2 (by rfl) T.n_max (by decide +kernel) (pa_cons (pe_callB (lenU K) (by rfl) T.n_len (by decide +kernel) (pa_cons (pe_ix (ixT K) (pe_ix (ixL K) (pv 9) pe_int (fun _ _ => rfl)) pe_int (fun _ _ => rfl)) pa_nil)) (pa_cons (pe_callB (lenU K) (by rfl) T.n_len (by decide +kernel) (pa_cons (pe_ix (ixT K) (pe_ix (ixL K) (pv 9) pe_int (fun _ _ => rfl)) pe_int (fun _ _ => rfl)) pa_nil)) pa_nil))) pe_int) pa_nil)) (pg_name (i := 10) sc__law_right.nd rfl (.inr rfl)) (pss_one (ps_for PassesOwn.never rfl (piL K (pv 9)) (pgTup K (n := 2) (pgs_cons (pg_name (i := 11) sc__law_right.nd rfl (.inl rfl)) (pgs_cons (pg_name (i := 12) sc__law_right.nd rfl (.inl rfl)) pgs_nil))) (pss_cons (ps_set (i := 13) sc__law_right.nd rfl (.inl rfl) (pe_ifExp (pt_cmpR op_lt (pv 10) (pv 6) (nomark _)) (pe_ix (ixL K) (pe_op op_cat (pv 12) (pe_op op_rep (pe_lst (pa_cons pe_non pa_nil)) (pv 6))) (pv 10) (fun _ _ => rfl)) pe_non))
    (pss_cons (ps_if (pt_not (pt_val (calG (O__law_same T) hr gd (pa_cons (cal (O_nth_key T) hr (pa_cons (pv 5) (pa_cons (pv 11) (pa_cons (pv 10) pa_nil)))) (pa_cons (pv 13) pa_nil))))) (pss_one (ps_ret pe_bl)) pss_nil)
    (pss_one (ps_if (pt_cmpR op_lt (pv 10) (pv 6) (nomark _)) (pss_cons (ps_set (i := 15) sc__law_right.nd rfl (.inl rfl) (pe_callB (lenU K) (by rfl) T.n_len (by decide +kernel) (pa_cons (pe_lc (own := [("_law_key_here", 14)]) (g := (gName 14)) rfl sc__law_right.nd (piL K (pv 12)) (blkOk_by (N := N__law_right) (sc := defScope s__law_right) (by decide +kernel)) (fun _ _ _ _ _ => (pg_name (i := 14) sc__law_right.nd rfl (.inl rfl))) (fun _ _ _ _ _ => (pts_one (pt_cmpR op_lt (pv 14) (pv 10) (nomark _)))) (fun _ _ _ _ _ => (pv 14))) pa_nil)))
    (pss_one (ps_if (pt_cmpR op_ne (cal (O_rank T) hr (pa_cons (pv 5) (pa_cons (pv 11) (pa_cons (pv 10) pa_nil)))) (pv 15) (nomark _)) (pss_one (ps_ret pe_bl)) pss_nil))) pss_nil)))))))
    (pss_cons (ps_par (i := 16) (j := 17) rfl sc__law_right.nd rfl rfl (by decide) rfl rfl (pa_cons (pe_lst pa_nil) (pa_cons pe_int pa_nil)) (by rfl))
    (pss_cons (ps_for PassesOwn.never rfl (pi_range1 (by rfl) T.n_range (pa_cons (pv 6) pa_nil)) (pg_name (i := 14) sc__law_right.nd rfl (.inl rfl)) (pss_cons (ps_expr (bmK K PySem.F.plainAttrs_list PySem.F.slot_list_append PySem.F.type_list_append mt_append (pv 16) (pa_cons (pv 17) pa_nil)))
    (pss_one (ps_set (i := 17) sc__law_right.nd rfl (.inl rfl) (pe_op op_add (pv 17) (pe_callTy intB (by rfl) T.n_int (by decide +kernel) (pa_cons (pe_and (pe_cmpR op_lt (pv 17) (pe_callB (lenU K) (by rfl) T.n_len (by decide +kernel) (pa_cons (pv 7) pa_nil)) (nomark _)) (pe_one (pe_cmpR op_eq (pe_ix (ixL K) (pv 7) (pv 17) (fun _ _ => rfl)) (pv 14) (nomark _)))) pa_nil)))))))
    (pss_cons (ps_if (pt_not (pt_val (calG (O__law_same T) hr gd (pa_cons (pe_lc (own := [("_law_key_here", 14)]) (g := (gName 14)) rfl sc__law_right.nd (pi_range1 (by rfl) T.n_range (pa_cons (pv 6) pa_nil)) (blkOk_by (N := N__law_right) (sc := defScope s__law_right) (by decide +kernel)) (fun _ _ _ _ _ => (pg_name (i := 14) sc__law_right.nd rfl (.inl rfl))) (fun _ _ _ _ _ => pts_nil) (fun _ _ _ _ _ => (cal (O_rank T) hr (pa_cons (pv 5) (pa_cons (pv 4) (pa_cons (pv 14) pa_nil)))))) (pa_cons (pv 16) pa_nil))))) (pss_one (ps_ret pe_bl)) pss_nil)
    (pss_cons (ps_asg (cal (O__law_finer T) hr (pa_cons (pv 0) (pa_cons (pv 1) (pa_cons (pv 2) pa_nil)))) (pgTup K (n := 2) (pgs_cons (pg_name (i := 18) sc__law_right.nd rfl (.inl rfl)) (pgs_cons (pg_name (i := 19) sc__law_right.nd rfl (.inl rfl)) pgs_nil))))
    (pss_cons (ps_par3 (i := 20) (j := 21) (l := 22) rfl sc__law_right.nd rfl rfl rfl (by decide) (by decide) (by decide) rfl rfl rfl (pa_cons (mkO (O_Weave___init__ T) T.m_Weave T.g_Weave hr (pa_cons (pe_op op_add_str (pv 3) (pv 19)) pa_nil)) (pa_cons (cal (O__law_wide T) hr (pa_cons (pv 4) (pa_cons (pv 18) pa_nil))) (pa_cons (pe_callB (lenU K) (by rfl) T.n_len (by decide +kernel) (pa_cons (pv 19) pa_nil)) pa_nil))) (by rfl))
    (pss_cons (ps_for PassesOwn.never rfl (pi_range1 (by rfl) T.n_range (pa_cons pe_int pa_nil)) (pg_name (i := 23) sc__law_right.nd rfl (.inl rfl)) (pss_cons (ps_par (i := 14) (j := 24) rfl sc__law_right.nd rfl rfl (by decide) rfl rfl (pa_cons (cal (O__law_dip T) hr (pa_cons (pv 0) (pa_cons (pv 6) pa_nil))) (pa_cons (pe_ix (ixL K) (pe_lst (pa_cons pe_int (pa_cons (pe_op op_sub (pe_op op_oneShl pe_int (pv 22)) pe_int) (pa_cons (cal (O__law_dip T) hr (pa_cons (pv 0) (pa_cons (pe_op op_oneShl pe_int (pv 22)) pa_nil))) pa_nil)))) (cal (O__law_dip T) hr (pa_cons (pv 0) (pa_cons pe_int pa_nil))) (fun _ _ => rfl)) pa_nil)) (by rfl))
    (pss_cons (ps_set (i := 13) sc__law_right.nd rfl (.inl rfl) (pe_op op_add (pe_op op_shlN (pe_ix (ixL K) (pv 16) (pv 14) (fun _ _ => rfl)) (pv 22)) (pe_op op_mulX (pv 24) (pe_callTy intB (by rfl) T.n_int (by decide +kernel) (pa_cons (pe_cmpR (inSeq K) (pv 14) (pv 7) rfl) pa_nil)))))
    (pss_cons (ps_if (pt_cmpR op_ne (cal (O_rank T) hr (pa_cons (pv 20) (pa_cons (pv 21) (pa_cons (pe_op op_add (pe_op op_shlN (pv 14) (pv 22)) (pv 24)) pa_nil)))) (pv 13) (nomark _)) (pss_one (ps_ret pe_bl)) pss_nil)
    (pss_cons (ps_set (i := 10) sc__law_right.nd rfl (.inr rfl) (cal (O__law_dip T) hr (pa_cons (pv 0) (pa_cons (pe_callB (lenU K) (by rfl) T.n_len (by decide +kernel) (pa_cons (pv 7) pa_nil)) pa_nil))))
    (pss_cons (ps_set (i := 13) sc__law_right.nd rfl (.inl rfl) (pe_op op_add (pe_op op_shlN (pe_ix (ixL K) (pv 7) (pv 10) (fun _ _ => rfl)) (pv 22)) (pv 24)))
    (pss_one (ps_if (pt_cmpR op_ne (cal (O_nth_key T) hr (pa_cons (pv 20) (pa_cons (pv 21) (pa_cons (pe_op op_add (pe_op op_shlN (pv 10) (pv 22)) (pv 24)) pa_nil)))) (pv 13) (nomark _)) (pss_one (ps_ret pe_bl)) pss_nil))))))))
    (pss_one (ps_ret (pe_cmpR op_isN (cal (O_nth_key T) hr (pa_cons (pv 20) (pa_cons (pv 21) (pa_cons (pe_op op_add (pe_op op_shlN (pe_callB (lenU K) (by rfl) T.n_len (by decide +kernel) (pa_cons (pv 7) pa_nil)) (pv 22)) (cal (O__law_dip T) hr (pa_cons (pv 0) (pa_cons (pe_op op_oneShl pe_int pe_int) pa_nil)))) pa_nil)))) pe_non (nomark _)))))))))))))))), ?_⟩
    walk_at "vc"
    have p55 : (2 : Nat) ^ 55 = 36028797018963968 := by decide
    have p56 : (2 : Nat) ^ 56 = 72057594037927936 := by decide
    have p57 : (2 : Nat) ^ 57 = 144115188075855872 := by decide
    have p58 : (2 : Nat) ^ 58 = 288230376151711744 := by decide
    refine ⟨a, p, sh, n, rfl, hB, by omega, hsh, sqT_of hp, fun l H1 b1 B1 hW hl => ?_⟩
    refine ⟨a, p, sh, _, rfl, B1, by omega, hsh, sqT_of (hB.keep b1 hp), fun b bx H2 b2 B2 _ hb hbs => ?_⟩
    have hp2 := B1.keep b2 (hB.keep b1 hp)
    refine ⟨le_size (by decide), fun t1 nt1 => ⟨_, sqT_of upd_same, rfl, _, _, rfl, _, _, rfl, rfl, ?_⟩⟩
    refine weave_new hW fun x H3 s3 nx hx => ?_
    have s3 := (same_new nt1).trans s3
    have hs0 := sumNN sh fun b hb => by have := (hsh.bt b hb).1; omega
    have eN : (l.length : Int) = sh.sum := by rw [← hl, hW.sum]
    have hp3 := s3 _ _ hp2
    have hb3 := hb.same s3
    have B3 := B2.same s3
    have b03 : But a H H3 := (b1.trans b2).trans (.of_same s3)
    refine ⟨sh, sqT_of hp3, l.length, by omega, by omega, le_size (by decide), fun t2 nt2 => ⟨_, sqT_of upd_same, rfl, _, _, rfl, _, _, rfl, rfl, ?_⟩⟩
    refine ⟨l, p, b, sh, bx, rfl, hsh, hsm, hW, hl, upd_new nt2 hp3, hb3.same (same_new nt2), hbs, fun LD H4 s4 nLD hLD => ?_⟩
    have s4 := (same_new (o := .tup [V.ref x, V.int (2 ^ l.length)]) nt2).trans s4
    have B4 := B3.same s4
    have hp4 := s4 _ _ hp3
    have hx4 := shp_same hx s4
    refine ⟨a, p, b, sh, _, bx, rfl, B4, by omega, hsh, hp4, hb3.same s4, hbs, fun c cx H5 b5 B5 hc hcs => ?_⟩
    have hp5 := B4.keep b5 hp4
    have hb5 := B4.boxAt b5 (hb3.same s4)
    have hx5 := shp_br hx4 B4 b5
    have nLDa : LD ≠ a := (B3.new nt2).apart nLD
    have hLD5 := b5 _ _ nLDa hLD
    refine ⟨le_size (by decide), fun r1 nr1 => ⟨l, p, c, sh, cx, rfl, hsh, hsm, hW, hl, upd_new nr1 hp5, hc.same (same_new nr1), hcs, fun LE H6 s6 _ hLE => ?_⟩⟩
    have hr1 := s6 _ _ (upd_same (H := H5) (a := r1) (o := .tup [V.ref b, V.ref LD]))
    have s6 := (same_new (o := .tup [V.ref b, V.ref LD]) nr1).trans s6
    refine ⟨le_size (by decide), fun r2 nr2 => ⟨le_size (by decide), fun R nR => ?_⟩⟩
    have s7 := (s6.new (o := .tup [V.ref c, V.ref LE]) nr2).new (o := .lst [V.ref r1, V.ref r2]) nR
    have hr1' := upd_new (o := .lst [V.ref r1, V.ref r2]) nR (upd_new (o := .tup [V.ref c, V.ref LE]) nr2 hr1)
    have hr2' := upd_new (o := .lst [V.ref r1, V.ref r2]) nR (upd_same (H := H6) (a := r2) (o := .tup [V.ref c, V.ref LE]))
    have hR : upd (upd H6 r2 (.tup [V.ref c, V.ref LE])) R (.lst [V.ref r1, V.ref r2]) R = _ := upd_same
    have hLE' := upd_new (o := .lst [V.ref r1, V.ref r2]) nR (upd_new (o := .tup [V.ref c, V.ref LE]) nr2 hLE)
    generalize upd (upd H6 r2 (.tup [V.ref c, V.ref LE])) R (.lst [V.ref r1, V.ref r2]) = H7 at *
    have hLD7 := s7 _ _ hLD5
    have hN9 : l.length ≤ 9 := by omega
    have h512 : (2 : Nat) ^ l.length ≤ 512 := Nat.pow_le_pow_right (n := 2) (by decide) hN9
    generalize hL1 : listB (inB l bx) (2 ^ l.length) = L1 at *
    generalize hL2 : listB (inB l cx) (2 ^ l.length) = L2' at *
    have hl1 : L1.length ≤ 512 := by
      have := listB_len (inB l bx) (2 ^ l.length)
      have h2 := countK_le (inB l bx) 0 (2 ^ l.length)
      rw [hL1] at this
      omega
    have hl2 : L2'.length ≤ 512 := by
      have := listB_len (inB l cx) (2 ^ l.length)
      have h2 := countK_le (inB l cx) 0 (2 ^ l.length)
      rw [hL2] at this
      omega
    refine ⟨_, sqL_of hR, _, rfl, r1, rfl, _, sqT_of hr1', _, rfl, _, .inl ⟨_, sqL_of hLD7, rfl⟩, _, sqL_of hR, _, rfl, r2, rfl, _, sqT_of hr2', _, rfl, _, .inl ⟨_, sqL_of hLE', rfl⟩, ?_⟩
    rw [List.length_map, List.length_map]
    refine ⟨by split <;> omega, by split <;> omega, ?_⟩
    have hN0 : 0 < (2 : Nat) ^ l.length := Nat.two_pow_pos _
    have e2N : (2 : Int) ^ l.length = (((2 : Nat) ^ l.length : Nat) : Int) := pow_nat _
    have hb7 := hb5.same s7
    have hc7 := hc.same s7
    have rowOf : ∀ (j : Nat) (z : V), [V.ref r1, V.ref r2][j]? = some z → ∃ (rr bb ll : Addr) (bz : List (Int × Int)) (Lz : List Int), z = .ref rr ∧ H7 rr = some (.tup [.ref bb, .ref ll]) ∧ BoxAt H7 bb bz ∧ BoxSh sh bz ∧ H7 ll = some (.lst (Lz.map V.int)) ∧ listB (inB l bz) (2 ^ l.length) = Lz := fun j z hz => by
      match j, hz with
      | 0, hz =>
        cases hz
        exact ⟨r1, b, LD, bx, L1, rfl, hr1', hb7, hbs, hLD7, hL1⟩
      | 1, hz =>
        cases hz
        exact ⟨r2, c, LE, cx, L2', rfl, hr2', hc7, hcs, hLE', hL2⟩
      | j + 2, hz => cases hz
    refine loop_r0 (fun i σ' H' => ∃ y10 y11 y12 y13 y14 y15 : Option L2.V, σ' = [some (.ref a), some (.ref p), some (.int most), some (.str (sg l)), some (.ref b), some (.ref x), some (.int (2 ^ l.length)), some (.ref LD), some (.ref c), some (.ref R), y10, y11, y12, y13, y14, y15, none, none, none, none, none, none, none, none, none] ∧ Same H7 H')
      ⟨none, none, none, none, none, none, rfl, fun _ _ h => h⟩ ?_ ?_
    · rintro i σ' H8 hi ⟨y10, y11, y12, y13, y14, y15, rfl, s8⟩
      have hi520 : i < 520 := by
        have : i < ((if (L2'.length : Int) > (L1.length : Int) then (L2'.length : Int) else (L1.length : Int)) + 2).toNat := hi
        split at this <;> omega
      walk_at "vc"
      refine ⟨⟨_, sqL_of (s8 _ _ hR)⟩, ?_⟩
      refine loop_l (xs := [V.ref r1, V.ref r2]) (fun j σ' H' => ∃ y11 y12 y13 y14 y15 : Option L2.V, σ' = [some (.ref a), some (.ref p), some (.int most), some (.str (sg l)), some (.ref b), some (.ref x), some (.int (2 ^ l.length)), some (.ref LD), some (.ref c), some (.ref R), some (.int (i : Int)), y11, y12, y13, y14, y15, none, none, none, none, none, none, none, none, none] ∧ Same H7 H')
        ⟨y11, y12, y13, y14, y15, rfl, s8⟩ (by rintro j σ' H' _ ⟨_, _, _, _, _, _, s⟩; exact sqL_of (s _ _ hR)) ?_ ?_
      · rintro j z σ' H9 hz ⟨y11, y12, y13, y14, y15, rfl, s9⟩
        obtain ⟨rr, bb, ll, bz, Lz, rfl, hrr, hbb, hbz, hll, hLz⟩ := rowOf j z hz
        have hlz : Lz.length ≤ 512 ∧ (Lz.length : Int) = countK (inB l bz) 0 (2 ^ l.length) := by
          have h1 := listB_len (inB l bz) (2 ^ l.length)
          have h2 := countK_le (inB l bz) 0 (2 ^ l.length)
          rw [hLz] at h1
          omega
        have hlz2 : (Lz.length : Int) ≤ 2 ^ l.length := by
          have h2 := countK_le (inB l bz) 0 (2 ^ l.length)
          rw [e2N]
          omega
        walk_at "vc"
        refine ⟨_, sqT_of (s9 _ _ hrr), rfl, _, _, rfl, _, _, rfl, rfl, ?_⟩
        walk_at "vc"
        obtain ⟨dd, hdd, hok⟩ := due_data (K := K) hLz h512 i
        have hbok := hbz.ok hl
        have fin : ∀ (H' : Hp) (v : V), Same H7 H' → v = dueV Lz i → sp_nth_key K [V.ref x, V.ref bb, V.int (i : Int)] H' (fun x_6 H1 => sp__law_same K [x_6, v] H1 (fun x_7 H1 => ∃ c_1, x_7 = V.bl c_1 ∧ if (!c_1) = true then Q (V.bl false) H1 else if decide ((i : Int) < 2 ^ l.length) = true then (∃ xs, SqL K H1 ll xs) ∧ CompL (Itl K ll) (gName 14) (tTest (tOp (rI0 fun i j => V.bl (decide (i < j))) (tVar 14) (tVar 10))) (tVar 14) [14]
            [some (V.ref a), some (V.ref p), some (V.int most), some (V.str (sg l)), some (V.ref b), some (V.ref x), some (V.int (2 ^ l.length)), some (V.ref LD), some (V.ref c), some (V.ref R), some (V.int (i : Int)), some (V.ref bb), some (V.ref ll), some v, y14, y15, none, none, none, none, none, none, none, none, none] H1 fun x_8 H1 =>
            ∃ x_9 : Nat, (match x_8 with | V.str y => y.length ≤ sizeLine ∧ x_9 = y.length | V.byt y => y.size ≤ sizeLine ∧ x_9 = y.size | V.ref p => (∃ xs, SqL K H1 p xs ∧ x_9 = xs.length) ∨ ∃ xs, SqT K H1 p xs ∧ x_9 = xs.length | x => False) ∧
              sp_rank K [V.ref x, V.ref bb, V.int (i : Int)] H1 (fun x H1 => scal x (V.int (x_9 : Int)) = true ∧ if (!decide (x = V.int (x_9 : Int))) = true then Q (V.bl false) H1 else Same H7 H1) E0
            else Same H7 H1) E0) E0 := fun H' v sv hv => by
          subst hv
          refine ⟨x, bb, l, _, bz, i, rfl, hW, shp_same (shp_same hx5 s7) sv, hbb.same sv, hbok, by omega, fun v H10 s10 hN => ?_⟩
          rw [nth_due hLz hN]
          refine same_do (hdd _) (hdd _) hok ⟨_, rfl, if_f rfl ?_⟩
          have s7a := sv.trans s10
          refine if_d (fun hlt => ⟨⟨_, sqL_of (s7a _ _ hll)⟩, ?_⟩) (fun _ => s7a)
          refine comp_l (xs := Lz.map V.int) (fun E k H' => Same H10 H' ∧ H' E = some (.lst (((Lz.take k).filter fun z => decide (z < (i : Int))).map V.int))) (fun E nE => ⟨same_new nE, by rw [List.take_zero]; exact upd_same⟩) (fun E k H' nE _ h => sqL_of (h.1 _ _ (s7a _ _ hll))) ?_ ?_
          · rintro E k z H' nE hz ⟨s11, hE⟩
            rw [List.getElem?_map] at hz
            obtain ⟨w, hw, rfl⟩ := Option.map_eq_some_iff.mp hz
            have hk := (List.getElem?_eq_some_iff.mp hw).1
            walk_at "vc"
            rw [take_snocG hw, List.filter_append, List.filter_cons]
            have hfl := List.length_filter_le (fun z => decide (z < (i : Int))) (Lz.take k)
            rw [List.length_take] at hfl
            refine if_d (fun e => ⟨_, hE, lt_size (by rw [List.length_map]; omega), s11.own nE, ?_⟩) (fun e => ⟨s11, ?_⟩)
            · rw [upd_same, if_pos (decide_eq_true e), List.map_append]
              rfl
            · rw [if_neg (by rw [decide_eq_true_eq]; exact e), List.filter_nil, List.append_nil]
              exact hE
          · rintro E H' nE ⟨s11, hE⟩
            rw [List.length_map, List.take_length] at hE
            have s7b := s7a.trans s11
            refine ⟨_, .inl ⟨_, sqL_of hE, rfl⟩, x, bb, l, _, bz, i, rfl, hW, shp_same (shp_same hx5 s7) s7b, hbb.same s7b, hbok, by omega, hlt, fun H12 s12 => ⟨rfl, if_nd (fun e => absurd ?_ e) (fun _ => s7b.trans s12)⟩⟩
            have h1 := listB_less (inB l bz) (2 ^ l.length) i (by rw [e2N] at hlt; omega)
            rw [hLz] at h1
            rw [List.length_map, h1, Int.toNat_natCast]
        refine if_d (fun hlt => ⟨le_size (by decide), fun p1 np1 => ?_⟩) (fun hge => fin H9 _ s9 (due_out (by omega)).symm)
        have htn : (2 ^ l.length : Int).toNat = 2 ^ l.length := by rw [e2N, Int.toNat_natCast]
        refine ⟨_, upd_same, by omega, by rw [e2N]; omega, le_size (by rw [htn]; show 1 * _ ≤ _; omega), fun p2 np2 => ?_⟩
        rw [htn, rep_one]
        refine ⟨_, upd_new np2 (upd_new np1 (s9 _ _ hll)), _, upd_same, le_size (by rw [List.length_map, List.length_replicate]; omega), fun p3 np3 => ⟨_, sqL_of upd_same, _, due_at (by rw [e2N] at hlt; omega), ?_⟩⟩
        exact fin _ _ (((s9.new np1).new np2).new np3) rfl
      · rintro σ' H9 ⟨y11, y12, y13, y14, y15, rfl, s9⟩
        exact ⟨_, _, _, _, _, _, rfl, s9⟩
    · rintro σ' H8 ⟨y10, y11, y12, y13, y14, y15, rfl, s8⟩
      walk_at "vc"
      have htn : (2 ^ l.length : Int).toNat = 2 ^ l.length := by rw [e2N, Int.toNat_natCast]
      have h62 : (2 : Int) ^ 62 = 4611686018427387904 := by decide
      have h20i : (2 : Int) ^ 20 = 1048576 := by decide
      have h10i : (2 : Int) ^ 10 = 1024 := by decide
      refine ⟨le_size (by decide), fun S1 nS1 => ⟨by omega, by omega, ?_⟩⟩
      rw [htn]
      have eL1 := listB_len (inB l bx) (2 ^ l.length)
      rw [hL1] at eL1
      refine loop_r0 (fun i σ' H' => ∃ y14 : Option L2.V, σ' = [some (.ref a), some (.ref p), some (.int most), some (.str (sg l)), some (.ref b), some (.ref x), some (.int (2 ^ l.length)), some (.ref LD), some (.ref c), some (.ref R), y10, y11, y12, y13, y14, y15, some (.ref S1), some (.int (countK (inB l bx) 0 i)), none, none, none, none, none, none, none] ∧ Same H8 H' ∧ H' S1 = some (.lst (((List.range i).map fun k => countK (inB l bx) 0 k).map V.int)))
        ⟨y14, rfl, same_new nS1, upd_same⟩ ?_ ?_
      · rintro i σ' H9 hi ⟨y14, rfl, s9, hS⟩
        walk_at "vc"
        have s10 : Same H8 (upd H9 S1 (HO.lst (((List.range i).map fun k => countK (inB l bx) 0 k).map V.int ++ [V.int (countK (inB l bx) 0 i)]))) := s9.own nS1
        have hS' : upd H9 S1 (HO.lst (((List.range i).map fun k => countK (inB l bx) 0 k).map V.int ++ [V.int (countK (inB l bx) 0 i)])) S1 = some (HO.lst (((List.range (i + 1)).map fun k => countK (inB l bx) 0 k).map V.int)) := by
          rw [upd_same, List.range_succ, List.map_append, List.map_append]
          rfl
        have nn := countK_nn (inB l bx) i
        refine ⟨tyv_l hS, _, hS, lt_size (by rw [List.length_map, List.length_map, List.length_range]; omega), _, .inl ⟨_, sqL_of (s10 _ _ (s8 _ _ hLD7)), rfl⟩, ?_⟩
        rw [List.length_map]
        have e1 : countK (inB l bx) 0 (i + 1) = countK (inB l bx) 0 i + if inB l bx (i : Int) = true then 1 else 0 := by rw [countK, Int.zero_add]
        by_cases hin : inB l bx (i : Int) = true
        · have hg := spot_yes hL1 hi hin
          have hlt := (List.getElem?_eq_some_iff.mp hg).1
          refine if_t (decide_eq_true (by omega)) ⟨_, sqL_of (s10 _ _ (s8 _ _ hLD7)), .int (i : Int), at_nat (j := (countK (inB l bx) 0 i).toNat) (by omega) (by rw [List.getElem?_map, hg]; rfl), rfl, ?_, s10, hS'⟩
          rw [e1, if_pos hin, if_pos (decide_eq_true rfl)]
        · refine if_d (fun hlt => ?_) (fun _ => ⟨by rw [e1, if_neg hin], s10, hS'⟩)
          have hlt' : (countK (inB l bx) 0 i).toNat < L1.length := by omega
          have hg := List.getElem?_eq_getElem hlt'
          have hne := spot_no hL1 hin hg
          refine ⟨_, sqL_of (s10 _ _ (s8 _ _ hLD7)), .int (L1[(countK (inB l bx) 0 i).toNat]), at_nat (j := (countK (inB l bx) 0 i).toNat) (by omega) (by rw [List.getElem?_map, hg]; rfl), rfl, ?_, s10, hS'⟩
          rw [e1, if_neg hin, if_neg (by rw [decide_eq_true_eq]; intro e; exact hne (by injection e))]
      · rintro σ' H9 ⟨y14, rfl, s9, hS⟩
        have s79 := s8.trans s9
        walk_at "vc"
        refine ⟨by omega, by omega, ?_⟩
        rw [htn]
        have hbok := hbs.ok hl
        refine comp_r (fun E k H' => Same H9 H' ∧ H' E = some (.lst (((List.range k).map fun k => countK (inB l bx) 0 k).map V.int))) (fun E nE => ⟨same_new nE, upd_same⟩) ?_ ?_
        · rintro E i H' nE hi ⟨s10, hE⟩
          have sA := s79.trans s10
          walk_at "vc"
          refine ⟨x, b, l, _, bx, _, rfl, hW, shp_same (shp_same hx5 s7) sA, hb7.same sA, hbok, by omega, by omega, fun H11 s11 => ?_⟩
          refine ⟨_, s11 _ _ hE, lt_size (by rw [List.length_map, List.length_map, List.length_range]; omega), (s10.trans s11).own nE, ?_⟩
          rw [upd_same, List.range_succ, List.map_append, List.map_append, show (0 + (i : Int)).toNat = i by omega]
          rfl
        rintro E H10 nE ⟨s10, hE⟩
        have sA := s79.trans s10
        walk_at "vc"
        refine same_do (dp_lst (sqL_of hE)) (dp_lst (sqL_of (s10 _ _ hS))) ((DOk.ints (k := 20) ?_ (by decide) (by decide)).mono (n' := 100000) (Nat.le_refl _) ?_) ⟨_, rfl, if_f rfl ?_⟩
        · intro z hz
          obtain ⟨k, hk, rfl⟩ := List.mem_map.mp hz
          have hk' := List.mem_range.mp hk
          have h1 := countK_le (inB l bx) 0 k
          have h0 := countK_nn (inB l bx) k
          have h20 : (2 : Nat) ^ 20 = 1048576 := by decide
          omega
        · rw [List.length_map, List.length_range]
          omega
        have b010 : But a H H10 := ((b03.trans (.of_same s4)).trans b5).trans (.of_same (s7.trans sA))
        have B10 := (B5.same s7).same sA
        have hp10 := sA _ _ (s7 _ _ hp5)
        refine ⟨a, p, sh, _, most, rfl, B10, by omega, hsh, hm1, hm2, hp10, fun r m t more H11 b11 B11 hr hm hml hmk hmt hms => ?_⟩
        refine ⟨_, rfl, _, sqT_of hr, rfl, _, _, rfl, _, _, rfl, rfl, _, rfl, ?_⟩
        rw [sg_len, sg_len, sg_app]
        have hWt : WOk (l ++ t) sh.length := wok_more hW hmt (fun k hk => by
          have h1 := hmk k hk
          have h2 := cnts_get hl hk
          omega) (by omega)
        refine ⟨le_size (by omega), weave_new hWt fun y H12 s12 ny hy => ?_⟩
        have hb12 := (B10.boxAt b11 (hb7.same sA)).same s12
        have h240 : ∀ k, k < sh.length → (2 : Int) ^ (sh.getD k 0).toNat ≤ 2 ^ 240 := fun k hk => pow_le (by have := hsh.at hk; omega)
        refine ⟨b, m, bx, more, rfl, hb12, sqT_of (s12 _ _ hm), by rw [hml, hbs.len], by rw [hbs.len]; exact hsh.n4, (fun k hk => by
          rw [hbs.len] at hk
          have h1 := hmk k hk
          have h2 := h240 k hk
          have h3 := hbs.lo k hk
          have h4 := hbs.le k hk
          have h5 := hbs.hi k hk
          have h6 := hsh.at hk
          omega), fun r2 H13 s13 hw => ?_⟩
        refine ⟨_, ⟨by rw [sg_len]; exact le_size (by omega), rfl⟩, by decide, by decide, ?_⟩
        rw [sg_len]
        have hwok := wide_ok (t := t) (more := more) hbok fun k hk => (hmk k hk).2.2
        have B13 := ((B11.same s12).same s13).mono (m := n + 38000) (by omega)
        have b13 : But a H H13 := (b010.trans b11).trans (.of_same (s12.trans s13))
        have hy13 := shp_same hy s13
        have hfine : ∀ v : Int, 0 ≤ v → inB (l ++ t) (wideB bx more) v = inB l bx (v / ((2 ^ t.length : Nat) : Int)) := fun v _ => by
          rw [← pow_nat]
          exact inB_fine (fun k hk => by
            rw [hbs.len] at hk
            have := (hmk k hk).2.2
            omega) v
        have hsome := box_some hW hbok
        have hT0 := pow_pos' t.length
        have nS1a : S1 ≠ a := ((B5.same s7).same s8).apart nS1
        have hS13 := s13 _ _ (s12 _ _ (b11 _ _ nS1a (s10 _ _ hS)))
        have hLD13 := s13 _ _ (s12 _ _ (b11 _ _ nLDa (sA _ _ hLD7)))
        refine loop_r0 (fun i σ' H' => ∃ y10 y13 y14 y23 y24 : Option L2.V, σ' = [some (.ref a), some (.ref p), some (.int most), some (.str (sg l)), some (.ref b), some (.ref x), some (.int (2 ^ l.length)), some (.ref LD), some (.ref c), some (.ref R), y10, y11, y12, y13, y14, y15, some (.ref S1), some (.int (countK (inB l bx) 0 (2 ^ l.length))), some (.ref m), some (.str (sg t)), some (.ref y), some (.ref r2), some (.int (t.length : Int)), y23, y24] ∧ But a H13 H' ∧ Br a (n + 38000 + 100 * i) H')
          ⟨y10, y13, y14, none, none, rfl, But.refl, by rw [Nat.mul_zero]; exact B13⟩ ?_ ?_
        · rintro i σ' H14 hi ⟨y10, y13, y14, y23, y24, rfl, b14, B14⟩
          have hi8 : i < 8 := hi
          walk_at "vc"
          refine dip_do B14 (by omega) (by omega) (lt1000 (k := 240) (Int.lt_of_lt_of_le (b := 2 ^ 10) (by rw [e2N, h10i]; omega) (pow_le (by decide))) (by decide)) fun w1 o1 w10 w11 hB1 => ⟨t.length, rfl, by omega, t.length, rfl, by omega, ?_⟩
          refine dip_do (Br.put hB1) (by omega) (by omega) (lt1000 (k := 241) (Int.lt_of_le_of_lt (pow_le (b := 240) (by omega)) (by decide +kernel)) (by decide)) fun w2 o2 w20 w21 hB2 => ⟨le_size (by decide), fun p1 np1 => ?_⟩
          have np1a : p1 ≠ a := (Br.put hB2).apart np1
          refine dip_do (Br.new (Br.put hB2) np1) (by omega) (by decide) (small1000' (by decide)) fun w3 o3 w30 w31 hB3 => ?_
          obtain ⟨rest, r0, r1, hat⟩ : ∃ rest : Int, 0 ≤ rest ∧ rest < 2 ^ t.length ∧ atI [V.int 0, V.int (2 ^ t.length - 1), V.int w2] w3 = some (.int rest) := by
            rcases (show w3 = 0 ∨ w3 = 1 ∨ w3 = 2 by omega) with e | e | e <;> subst e
            · exact ⟨0, by omega, by omega, rfl⟩
            · exact ⟨2 ^ t.length - 1, by omega, by omega, rfl⟩
            · exact ⟨w2, by omega, by omega, rfl⟩
          have b15 : But a H13 (upd (upd (upd (upd H14 a o1) a o2) p1 (HO.lst [V.int 0, V.int (2 ^ t.length - 1), V.int w2])) a o3) := ((b14.at.at).new np1).at
          have B15 := Br.put (a := a) (H := upd (upd (upd H14 a o1) a o2) p1 (HO.lst [V.int 0, V.int (2 ^ t.length - 1), V.int w2])) hB3
          have hp15 : upd (upd (upd (upd H14 a o1) a o2) p1 (HO.lst [V.int 0, V.int (2 ^ t.length - 1), V.int w2])) a o3 p1 = _ := upd_at np1a upd_same
          generalize upd (upd (upd (upd H14 a o1) a o2) p1 (HO.lst [V.int 0, V.int (2 ^ t.length - 1), V.int w2])) a o3 = H15 at *
          have r240 : rest < 2 ^ 240 := Int.lt_of_lt_of_le r1 (pow_le (by omega))
          have w512 : w1 < 512 := by omega
          have c0 := countK_nn (inB l bx) w1.toNat
          have c1 := countK_le (inB l bx) 0 w1.toNat
          refine ⟨_, w3, rfl, sqL_of hp15, _, hat, _, w1, rfl, sqL_of (b15 _ _ nS1a hS13), .int (countK (inB l bx) 0 w1.toNat), at_nat (j := w1.toNat) (by omega) (by rw [List.getElem?_map, List.getElem?_map, List.getElem?_range (by omega)]; rfl), _, rfl, t.length, rfl, cshl_of (a := 20) c0 (by rw [h20i]; omega) (by omega), ?_⟩
          refine in_ints (sqL_of (b15 _ _ nLDa hLD13)) ⟨_, rfl, rest, rfl, mulx_of (a := 240) (b := 2) r0 r240 (by split <;> decide) (by split <;> decide) (by decide), w1, rfl, t.length, rfl, cshl_of (a := 20) w10 (by rw [h20i]; omega) (by omega), rest, rfl, ?_⟩
          have hy15 := shp_br hy13 B13 b15
          have hw15 := B13.boxAt b15 hw
          refine ⟨y, r2, l ++ t, _, wideB bx more, _, rfl, hWt, hy15, hw15, hwok, Int.add_nonneg (Int.mul_nonneg w10 (Int.le_of_lt (pow_pos' _))) r0, ?_, fun H16 s16 => ?_⟩
          · have : (w1 + 1) * 2 ^ t.length ≤ 2 ^ l.length * 2 ^ t.length := Int.mul_le_mul_of_nonneg_right (by omega) (Int.le_of_lt (pow_pos' _))
            rw [List.length_append, Int.pow_add]
            rw [Int.add_mul, Int.one_mul] at this
            omega
          rw [fine_rank hfine w10 r0 r1]
          have ein : (if decide (w1 ∈ L1) = true then (1 : Int) else 0) = if inB l bx w1 = true then 1 else 0 := by
            by_cases hin : inB l bx w1 = true
            · rw [if_pos hin, if_pos (decide_eq_true (by rw [← hL1]; exact listB_mem.mpr ⟨w10, by omega, hin⟩))]
            · rw [if_neg hin, if_neg (by rw [decide_eq_true_eq, ← hL1]; exact fun h => hin (listB_mem.mp h).2.2)]
          rw [ein]
          refine ⟨rfl, if_nd (fun e => absurd rfl e) (fun _ => ?_)⟩
          have b16 := b15.trans (.of_same s16)
          have B16 := B15.same s16
          refine ⟨_, .inl ⟨_, sqL_of (b16 _ _ nLDa hLD13), rfl⟩, ?_⟩
          rw [List.length_map]
          refine dip_do B16 (by omega) (by omega) (small1000' (by omega)) fun w4 o4 w40 w41 hB4 => ?_
          have b17 : But a H13 (upd H16 a o4) := b16.at
          have B17 := Br.put (a := a) (H := H16) hB4
          generalize upd H16 a o4 = H17 at *
          have hg4 := List.getElem?_eq_getElem (l := L1) (i := w4.toNat) (by omega)
          have hv4 : L1[w4.toNat]'(by omega) ∈ listB (inB l bx) (2 ^ l.length) := by
            rw [hL1]
            exact List.getElem_mem _
          obtain ⟨v40, v41, _⟩ := listB_mem.mp hv4
          generalize L1[w4.toNat]'(by omega) = v4 at *
          have ew4 : w4 = ((w4.toNat : Nat) : Int) := by omega
          refine ⟨_, w4, rfl, sqL_of (b17 _ _ nLDa hLD13), .int v4, at_nat (j := w4.toNat) ew4 (by rw [List.getElem?_map, hg4]; rfl), _, rfl, t.length, rfl, cshl_of (a := 20) v40 (by rw [h20i]; omega) (by omega), rest, rfl, w4, rfl, t.length, rfl, cshl_of (a := 20) w40 (by rw [h20i]; omega) (by omega), rest, rfl, ?_⟩
          refine ⟨y, r2, l ++ t, _, wideB bx more, _, rfl, hWt, shp_br hy13 B13 b17, B13.boxAt b17 hw, hwok, Int.add_nonneg (Int.mul_nonneg w40 (Int.le_of_lt (pow_pos' _))) r0, fun v H18 s18 hN => ?_⟩
          rw [ew4] at hN
          rw [fine_nth hfine (List.length_append ..) hL1 hg4 r0 r1 hN]
          exact ⟨rfl, if_nd (fun e => absurd rfl e) fun _ => ⟨b17.trans (.of_same s18), (B17.same s18).mono (by omega)⟩⟩
        · rintro σ' H14 ⟨y10, y13, y14, y23, y24, rfl, b14, B14⟩
          walk_at "vc"
          refine ⟨_, .inl ⟨_, sqL_of (b14 _ _ nLDa hLD13), rfl⟩, ?_⟩
          rw [List.length_map]
          refine ⟨t.length, rfl, cshl_of (a := 20) (by omega) (by rw [h20i]; omega) (by omega), 300, rfl, by decide, ?_⟩
          refine dip_do B14 (by omega) (by decide +kernel) (lt1000 (k := 301) (by decide +kernel) (by decide)) fun w1 o1 w10 w11 hB1 => ?_
          have b15 : But a H13 (upd H14 a o1) := b14.at
          have B15 := Br.put (a := a) (H := H14) hB1
          refine ⟨w1, rfl, y, r2, l ++ t, _, wideB bx more, _, rfl, hWt, shp_br hy13 B13 b15, B13.boxAt b15 hw, hwok, Int.add_nonneg (Int.mul_nonneg (by omega) (Int.le_of_lt (pow_pos' _))) w10, fun v H18 s18 hN => ?_⟩
          rw [fine_none hfine (List.length_append ..) hL1 w10 hN]
          exact q _ (b13.trans (b15.trans (.of_same s18))) ((B15.same s18).mono (by omega)))
end
section
variable {P : Program} {w : World} {K : PySem.W.Frag} {mg : Str → Option Value} {base : Heap}
theorem wok_abab : WOk [97, 98, 97, 98] 2 := ⟨by decide, by decide, by decide, by decide, fun k a b => (by decide : ∀ k, k < 4 → 2 ≤ k → [97, 98, 97, 98].count (97 + k) = 0) k b a, by decide, by decide⟩
theorem round_do {p : Addr} {m : Nat} {c most : Int} {H : Hp} {A B : Hp → Prop} (hB : Br p m H) (hm : m ≤ 2 ^ 54) (h1 : 1 ≤ c) (h9 : c ≤ 9) (h2 : c ≤ most) (h3 : most ≤ 240) (q : ∀ H2, But p H H2 → Br p (m + 40100) H2 → B H2) :
    sp__law_shape [.ref p, .int c] H (fun x H1 => sp__law_right [.ref p, x, .int most] H1 (fun y H2 => ∃ c, y = .bl c ∧ if (!c) = true then A H2 else B H2) E0) E0 := by
  have p54 : (2 : Nat) ^ 54 = 18014398509481984 := by decide
  have p55 : (2 : Nat) ^ 55 = 36028797018963968 := by decide
  have p58 : (2 : Nat) ^ 58 = 288230376151711744 := by decide
  exact ⟨p, c, m, rfl, hB, by omega, h1, by omega, fun s sh H1 b1 B1 ns hs hsh hsm => ⟨p, s, sh, m + 100, most, rfl, B1, by omega, hsh, by omega, by omega, h3, hs, fun H2 b2 B2 => ⟨_, rfl, if_f rfl (q H2 (b1.trans b2) (B2.mono (by omega)))⟩⟩⟩
def sp_law (K : PySem.W.Frag) : Sp := fun vs H Q _ => ∃ (a : Addr) (ns : List Int), vs = [.ref a] ∧ SqL K H a (ns.map V.int) ∧ ns.length ≤ 63 ∧ ∀ H', Q (.bl true) H'
theorem fn_law (T : Txt K mg) {fd : FuncData} (F : FunD K "law" "law" (defArgs s_law) (defBody s_law) (defScope s_law) [] [] (He.ga K "law") fd) : GFn P w K mg base CX0 16 (He.ga K "law") fd ["_law_script"] (sp_law K) :=
  gfn_of0 F sc_law (by rintro vs H Q E ⟨_, _, rfl, _⟩; rfl) (fun cdv A outer s H vs Q E hr gd h => by
    obtain ⟨a, ns, rfl, hS, hl, q⟩ := h
    refine ⟨_, (pss_cons (ps_for PassesOwn.never rfl (pi_range1 (by rfl) T.n_range (pa_cons (pe_callB max2 (by rfl) T.n_max (by decide +kernel) (pa_cons pe_int (pa_cons (pe_callB min2 (by rfl) T.n_min (by decide +kernel) (pa_cons pe_int (pa_cons (pe_callB (lenU K) (by rfl) T.n_len (by decide +kernel) (pa_cons (pv 0) pa_nil)) pa_nil))) pa_nil))) pa_nil)) (pg_name (i := 1) sc_law.nd rfl (.inl rfl)) (pss_cons (ps_set (i := 2) sc_law.nd rfl (.inl rfl) (cal (O__law_brook T) hr (pa_cons (pv 0) (pa_cons (pv 1) pa_nil))))
    (pss_cons (ps_if (PW.pt (pw_and (pt_cmpR op_eq (pv 1) pe_int (nomark _)) (pw_and1 (pt_not (pt_val (calG (O__law_right T) hr gd (pa_cons (pv 2) (pa_cons (cal (O__law_shape T) hr (pa_cons (pv 2) (pa_cons pe_int pa_nil))) (pa_cons pe_int pa_nil))))))))) (pss_one (ps_ret pe_bl)) pss_nil)
    (pss_one (ps_for PassesOwn.never rfl (pi_range1 (by rfl) T.n_range (pa_cons pe_int pa_nil)) (pg_name (i := 3) sc_law.nd rfl (.inl rfl)) (pss_one (ps_if (pt_not (pt_val (calG (O__law_right T) hr gd (pa_cons (pv 2) (pa_cons (cal (O__law_shape T) hr (pa_cons (pv 2) (pa_cons pe_int pa_nil))) (pa_cons pe_int pa_nil)))))) (pss_one (ps_ret pe_bl)) pss_nil)))))))
    (pss_cons (ps_par (i := 4) (j := 5) rfl sc_law.nd rfl rfl (by decide) rfl rfl (pa_cons (mkO (O_Weave___init__ T) T.m_Weave T.g_Weave hr (pa_cons pe_str pa_nil)) (pa_cons (pe_tup (pa_cons (pe_tup (pa_cons pe_int (pa_cons pe_int pa_nil))) (pa_cons (pe_tup (pa_cons pe_int (pa_cons pe_int pa_nil))) pa_nil))) pa_nil)) (by rfl))
    (pss_one (ps_ret (pe_cmpR (eqD K hr) (pe_lst (pa_cons (cal (O_rank T) hr (pa_cons (pv 4) (pa_cons (pv 5) (pa_cons pe_int pa_nil)))) (pa_cons (cal (O_nth_key T) hr (pa_cons (pv 4) (pa_cons (pv 5) (pa_cons pe_int pa_nil)))) (pa_cons (cal (O_nth_key T) hr (pa_cons (pv 4) (pa_cons (pv 5) (pa_cons pe_int pa_nil)))) pa_nil)))) (pe_lst (pa_cons pe_int (pa_cons pe_int (pa_cons pe_non pa_nil)))) (nomark _)))))), ?_⟩
    walk_at "vc"
    refine ⟨_, .inl ⟨_, hS, rfl⟩, by split <;> split <;> omega, by split <;> split <;> omega, ?_⟩
    have hN : (if (if ((ns.map V.int).length : Int) < 5 then ((ns.map V.int).length : Int) else 5) > 1 then if ((ns.map V.int).length : Int) < 5 then ((ns.map V.int).length : Int) else 5 else 1).toNat ≤ 5 := by split <;> split <;> omega
    generalize (if (if ((ns.map V.int).length : Int) < 5 then ((ns.map V.int).length : Int) else 5) > 1 then if ((ns.map V.int).length : Int) < 5 then ((ns.map V.int).length : Int) else 5 else 1).toNat = N at *
    refine loop_r0 (fun i σ' H' => ∃ y1 y2 y3 y4 y5 : Option V, σ' = [some (.ref a), y1, y2, y3, y4, y5] ∧ SqL K H' a (ns.map V.int)) ⟨none, none, none, none, none, rfl, hS⟩ ?_ ?_
    · rintro i σ' H1 hi ⟨y1, y2, y3, y4, y5, rfl, hS1⟩
      walk_at "vc"
      refine ⟨a, ns, i, rfl, hS1, hl, by omega, by omega, fun p o np hB => ?_⟩
      walk_at "vc"
      have p54 : (2 : Nat) ^ 54 = 18014398509481984 := by decide
      refine if_d (fun _ => round_do (Br.put hB) (by omega) (by decide) (by decide) (by decide) (by decide) fun H2 b2 B2 => ⟨by decide, by decide, ?_⟩) (fun _ => ⟨by decide, by decide, ?_⟩)
      all_goals
        refine loop_r0 (fun j σ' H' => ∃ y3 : Option V, σ' = [some (.ref a), some (.int i), some (.ref p), y3, y4, y5] ∧ But p H1 H' ∧ Br p (40100 + 40100 * j) H') ⟨y3, rfl, by first | exact But.refl.at.trans b2 | exact But.refl.at, by first | exact B2.mono (by omega) | exact (Br.put hB).mono (by omega)⟩ ?_ ?_
        · rintro j σ' H2 hj ⟨y3, rfl, b2, B2⟩
          have hj4 : j < 2 := by omega
          walk_at "vc"
          exact round_do B2 (by omega) (by decide) (by decide) (by decide) (by decide) fun H3 b3 B3 => ⟨b2.trans b3, B3.mono (by omega)⟩
        · rintro σ' H2 ⟨y3, rfl, b2, B2⟩
          walk_at "vc"
          exact b2.keepL np hS1
    · rintro σ' H1 ⟨y1, y2, y3, y4, y5, rfl, hS1⟩
      walk_at "vc"
      rw [show Str.ofString "abab" = sg [97, 98, 97, 98] by decide +kernel]
      refine weave_new wok_abab fun x H2 s2 nx hx => ⟨le_size (by decide), fun p np => ⟨le_size (by decide), fun p1 np1 => ⟨le_size (by decide), fun p2 np2 => ?_⟩⟩⟩
      have hL : listB (inB [97, 98, 97, 98] [((1 : Int), (2 : Int)), ((1 : Int), (2 : Int))]) (2 ^ [97, 98, 97, 98].length) = [3, 6, 9, 12] := by decide +kernel
      have hx3 := shp_same hx (((same_new (o := .tup [V.int 1, V.int 2]) np).new (o := .tup [V.int 1, V.int 2]) np1).new (o := .tup [V.ref p, V.ref p1]) np2)
      have hb3 : BoxAt (upd (upd (upd H2 p (HO.tup [V.int 1, V.int 2])) p1 (HO.tup [V.int 1, V.int 2])) p2 (HO.tup [V.ref p, V.ref p1])) p2 [((1 : Int), (2 : Int)), ((1 : Int), (2 : Int))] := by
        refine ⟨_, upd_same, ?_⟩
        have h1 := ((TupsAt.nil (H := upd (upd (upd H2 p (HO.tup [V.int 1, V.int 2])) p1 (HO.tup [V.int 1, V.int 2])) p2 (HO.tup [V.ref p, V.ref p1]))).snoc (upd_new np2 (upd_new np1 upd_same))).snoc (upd_new np2 upd_same)
        exact h1
      have hok : BoxOk [97, 98, 97, 98] 2 [((1 : Int), (2 : Int)), ((1 : Int), (2 : Int))] := ⟨by decide, by decide, by decide, by decide⟩
      refine ⟨x, p2, _, 2, _, 9, rfl, wok_abab, hx3, hb3, hok, by decide, by decide, fun H3 s3 => ?_⟩
      refine ⟨x, p2, _, 2, _, 3, rfl, wok_abab, shp_same hx3 s3, hb3.same s3, hok, by decide, fun v H4 s4 hv => ?_⟩
      have s34 := s3.trans s4
      refine ⟨x, p2, _, 2, _, 4, rfl, wok_abab, shp_same hx3 s34, hb3.same s34, hok, by decide, fun u H5 s5 hu => ?_⟩
      have ev := nth_due (i := 3) hL hv
      have eu := nth_due (i := 4) hL hu
      subst ev eu
      refine ⟨le_size (by decide), fun w1 nw1 => ⟨le_size (by decide), fun w2 nw2 => ?_⟩⟩
      exact eq_same (d := .list [.int 2, .int 12, .none]) (.lst (sqL_of (upd_new nw2 upd_same)) (.cons (.int 2) (.cons (.int 12) (.cons .non .nil)))) (.lst (sqL_of upd_same) (.cons (.int 2) (.cons (.int 12) (.cons .non .nil)))) (h := 1) ⟨by decide +kernel, by decide⟩ (q _))
end
theorem txt {K : PySem.W.Frag} {h : Heap} {mg : Str → Option Value} (X : K.In h) (G : h.Ns mainGlobals mg) (c : SaysA fal exl fnl K) : Txt K mg where
  n_all := He.free_ok X G (c.fact 0)
  n_bool := He.free_ok X G (c.fact 1)
  n_int := He.free_ok X G (c.fact 2)
  n_isinstance := He.free_ok X G (c.fact 3)
  n_len := He.free_ok X G (c.fact 4)
  n_list := He.free_ok X G (c.fact 5)
  n_max := He.free_ok X G (c.fact 6)
  n_min := He.free_ok X G (c.fact 7)
  n_range := He.free_ok X G (c.fact 8)
  n_repr := He.free_ok X G (c.fact 9)
  n_sorted := He.free_ok X G (c.fact 10)
  n_str := He.free_ok X G (c.fact 11)
  n_sum := He.free_ok X G (c.fact 12)
  n_tuple := He.free_ok X G (c.fact 13)
  n_zip := He.free_ok X G (c.fact 14)
  c_AXES := He.str_ok X G (c.fact 15)
  c_MOST_BITS := He.int_ok X G (c.fact 16)
  c_MOST_LETTERS := He.int_ok X G (c.fact 17)
  c_DIGITS := He.str_ok X G (c.fact 18)
  c_MOST_OPEN := He.int_ok X G (c.fact 19)
  c_MOST_TIMES := He.int_ok X G (c.fact 20)
  g_Weave := He.glo_ok X G (c.fact 21)
  k_Weave := He.cls_ok (c.fact 22)
  m_Weave := He.mkr_ok (c.fact 23)
  i_Weave := isB_ok (c.own 0)
  a_Weave_own_letters := He.noat_ok (c.fact 24)
  a_Weave_own_shape := He.noat_ok (c.fact 25)
  g_is_int := He.glo_ok X G (c.fact 26)
  g_require_index := He.glo_ok X G (c.fact 27)
  g_is_stretch := He.glo_ok X G (c.fact 28)
  g_is_box_of := He.glo_ok X G (c.fact 29)
  g_require_box := He.glo_ok X G (c.fact 30)
  g_require_key := He.glo_ok X G (c.fact 31)
  g_product_of := He.glo_ok X G (c.fact 32)
  g_cells_in := He.glo_ok X G (c.fact 33)
  g_met_box := He.glo_ok X G (c.fact 34)
  g_read_times := He.glo_ok X G (c.fact 35)
  g_read_parts := He.glo_ok X G (c.fact 36)
  g_count_letter := He.glo_ok X G (c.fact 37)
  g_written := He.glo_ok X G (c.fact 38)
  g_read_weave := He.glo_ok X G (c.fact 39)
  p_Weave_letters := propB_ok (c.own 1)
  p_Weave_shape := propB_ok (c.own 2)
  g_require_weave := He.glo_ok X G (c.fact 40)
  g_whole_box := He.glo_ok X G (c.fact 41)
  g_half_of := He.glo_ok X G (c.fact 42)
  g_bits_of := He.glo_ok X G (c.fact 43)
  g_require_three := He.glo_ok X G (c.fact 44)
  g_cells_met := He.glo_ok X G (c.fact 45)
  g_rank := He.glo_ok X G (c.fact 46)
  g_nth_key := He.glo_ok X G (c.fact 47)
  g__law_brook := He.glo_ok X G (c.fact 48)
  g__law_dip := He.glo_ok X G (c.fact 49)
  g__law_shape := He.glo_ok X G (c.fact 50)
  g__law_letters := He.glo_ok X G (c.fact 51)
  g__law_stretch := He.glo_ok X G (c.fact 52)
  g__law_box := He.glo_ok X G (c.fact 53)
  g__law_key := He.glo_ok X G (c.fact 54)
  g__law_cells := He.glo_ok X G (c.fact 55)
  g__law_within := He.glo_ok X G (c.fact 56)
  g__law_same := He.glo_ok X G (c.fact 57)
  g__law_listed := He.glo_ok X G (c.fact 58)
  g__law_finer := He.glo_ok X G (c.fact 59)
  g__law_wide := He.glo_ok X G (c.fact 60)
  g__law_second := He.glo_ok X G (c.fact 61)
  g__law_right := He.glo_ok X G (c.fact 62)
  g_law := He.glo_ok X G (c.fact 63)
  f_is_int := c.df 0
  f_require_index := c.df 1
  f_is_stretch := c.df 2
  f_is_box_of := c.df 3
  f_require_box := c.df 4
  f_require_key := c.df 5
  f_product_of := c.df 6
  f_cells_in := c.df 7
  f_met_box := c.df 8
  f_read_times := c.df 9
  f_read_parts := c.df 10
  f_count_letter := c.df 11
  f_written := c.df 12
  f_read_weave := c.df 13
  f_Weave___init__ := c.df 14
  f_Weave_letters := c.df 15
  f_Weave_shape := c.df 16
  f_require_weave := c.df 17
  f_whole_box := c.df 18
  f_half_of := c.df 19
  f_bits_of := c.df 20
  f_require_three := c.df 21
  f_cells_met := c.df 22
  f_rank := c.df 23
  f_nth_key := c.df 24
  f__law_brook := c.df 25
  f__law_dip := c.df 26
  f__law_shape := c.df 27
  f__law_letters := c.df 28
  f__law_stretch := c.df 29
  f__law_box := c.df 30
  f__law_key := c.df 31
  f__law_cells := c.df 32
  f__law_within := c.df 33
  f__law_same := c.df 34
  f__law_listed := c.df 35
  f__law_finer := c.df 36
  f__law_wide := c.df 37
  f__law_second := c.df 38
  f__law_right := c.df 39
  f_law := c.df 40
theorem law_at {P : Program} {w : World} {K : PySem.W.Frag} {h : Heap} {mg : Str → Option Value} {f : Addr} (X : K.In h) (G : h.Ns mainGlobals mg) (hfa : mg ("law" : Str) = some (.ref f)) (c : SaysA fal exl fnl K) :
    ∃ fd : FuncData, (∀ (s : Shared) (v : Value), BindsTo s fd ⟨[v], []⟩ [("_law_script", v)]) ∧ ∀ base : Heap, K.In base → base.Ns mainGlobals mg → GFn P w K mg base CX0 16 f fd ["_law_script"] (sp_law K) := by
  have T := txt X G c
  obtain ⟨fd, F⟩ := T.f_law
  have e := hfa.symm.trans T.g_law
  cases e
  have b := FunD.bindsA (ps := ["_law_script"]) F fun _ _ _ _ _ _ us hl => match us, hl with | [_], _ => rfl
  exact ⟨fd, fun s v => b s [v] rfl, fun base _ _ => fn_law T F⟩
end K20
open PySem PySem.W PySem.Calls PyProof.Rows
set_option maxHeartbeats 0 in
theorem PySem.Challenge.cw_wovenkeys_k20_ranks_and_nth_keys_holds : PySem.Challenge.rw_wovenkeys_k20_ranks_and_nth_keys.Holds := by
  w_on; o_law
  refine HandSHeadRun.head_any (r := OpenLaw.row PySem.Challenge.rw_wovenkeys_k20_ranks_and_nth_keys) (q := view (OpenLaw.row PySem.Challenge.rw_wovenkeys_k20_ranks_and_nth_keys).prog [58]) (H := K20.hk) (ob := K20.ob) (M := 6000) (loose := K20.nms) (d := HandSHeadRun.topDef (OpenLaw.row PySem.Challenge.rw_wovenkeys_k20_ranks_and_nth_keys).prog 58) (kwd := []) K20.ob_eq
    (by kernel_rfl) (fun s => by kernel_rfl) K20.run (by kernel_rfl) (by kernel_rfl) (by kernel_rfl) (by rfl) (by first | assumption | decide +kernel) (by decide +kernel) ⟨rfl, rfl, rfl, rfl, rfl, by decide +kernel⟩ ?hw ?hc
  case hw => w_witness2
  case hc =>
    refine WK.walkG (l := PySem.Challenge.rw_wovenkeys_k20_ranks_and_nth_keys) (n := 63) (k := 16) (x := "_law_script") rfl (by decide) (by kernel_rfl) ⟨rfl, by decide, by decide⟩ ?F
    intro w mg fa h Y G hmg0
    obtain ⟨K, KX, c⟩ := Y
    have hmg : mg ("law" : PySem.Str) = some (.ref fa) := by
      have e : (HandSHeadRun.topDef (OpenLaw.row PySem.Challenge.rw_wovenkeys_k20_ranks_and_nth_keys).prog 58).name = ("law" : PySem.Str) := by kernel_rfl
      rw [← e]
      exact hmg0
    obtain ⟨fd, hb, hF⟩ := K20.law_at (P := (PySem.Challenge.rw_wovenkeys_k20_ranks_and_nth_keys).prog) (w := w) KX G hmg c
    exact ⟨K, fd, K20.sp_law K, KX, hb, fun H a ns hl _ hS => ⟨a, ns, rfl, hS, hl, fun _ => rfl⟩, hF⟩
