import PyProof.Rows.All
import Wide.All
import OpenK.AllK
import Wide.FinOn
import HandS.ForMost
import HandS.Defaults
import HandS.Wide
import HandS.SortInts
import HandS.Strs
import HandS.IsInst
import HandS.Flow
import HandS.Style
import HandS.Deep
import HandS.Conv
import HandS.TupAny
import HandS.Head0
import HandS.Head1
import HandS.Head2
import HandS.HeadEnd
import HandS.HeadHook1
import HandS.HeadHook2
import HandS.HeadHook3
import HandS.HeadHook4
import HandS.HeadWalk
import HandS.EndBits
import HandS.FStr
import HandS.Text
import HandS.SetFor
import HandS.RaiseMore
import HandS.Exc
import HandS.WordsExc
import HandS.ExcInit
import HandS.ExcField
import KE.KExcIs
import HandS.HotCalls
import HandS.ExcCtx
import HandS.ExcInitHot
import PySem.Challenge.RW_monthclamp_k41_dates_read
set_option Elab.async false
set_option linter.all false
set_option maxRecDepth 100000
set_option maxHeartbeats 4000000
/-! own rules over the hand layer -/
namespace Mc
open PySem PySem.Spec PyProof.Rows L2
section
variable {X : Cx}
/-- powers of great ints -/
def CPowW (i j : Int) : Prop := 0 ≤ j ∧ (Builtin.Int.intBits i : Int) * j ≤ 2 ^ 27
theorem op_powW : OpR X (binaryOp .Pow) (rI CPowW fun i j => .int (i ^ j.toNat)) :=
  opI fun _ _ _ _ _ _ _ hc q => pow_int hc.1 hc.2 q
theorem bits_lt {i : Int} {b : Nat} (h : i.natAbs < 2 ^ b) (h0 : 0 < b) : Builtin.Int.intBits i ≤ b := by
  have y := PySem.Flt.log2_lt_of h0 h
  unfold Builtin.Int.intBits
  split <;> omega
theorem powW_of {i j : Int} {b : Nat} (h : i.natAbs < 2 ^ b) (h0 : 0 < b) (hj : 0 ≤ j) (hm : (b : Int) * j ≤ 2 ^ 27) : CPowW i j := by
  refine ⟨hj, Int.le_trans (Int.mul_le_mul_of_nonneg_right ?_ hj) hm⟩
  exact_mod_cast bits_lt h h0
end
end Mc
namespace Mc
open PySem PySem.Spec PyProof.Rows L2
/-! ### keywords -/
def gP {α : Type} (d : α) (is : List Nat) (us ws : List α) : List α := us ++ is.map fun i => ws.getD i d
theorem rel_getD : ∀ {zs : List V} {ws : List Value}, Vals zs ws → ∀ i : Nat, RelV (zs.getD i .non) (ws.getD i .none)
  | _, _, .nil, i => by cases i <;> exact rfl
  | _, _, .cons r _, 0 => r
  | _, _, .cons _ r, i + 1 => rel_getD r i
theorem rel_perm {zs : List V} {ws : List Value} (r : Vals zs ws) : ∀ is : List Nat, Vals (is.map fun i => zs.getD i .non) (is.map fun i => ws.getD i .none)
  | [] => .nil
  | i :: is => .cons (rel_getD r i) (rel_perm r is)
theorem kb_of {K : PySem.W.Frag} {x qual : Str} {params : Arguments} {body : List Stmt} {scope : Scope} {f : Addr} {fd : FuncData} {ps ks : List Str} {n : Nat} {is : List Nat}
    (F : FunD K x qual params body scope [] [] f fd)
    (h : ∀ (kV doc pm : Value) (an : Option Addr) (cdv ct : Value) (us ws : List Value), us.length = n → ws.length = ks.length →
      bindArgs (PySem.W.fnOf x qual params body scope .none kV doc pm an cdv ct) ⟨us, ks.zip ws⟩ = pure (ps.zip (gP .none is us ws))) :
    KBn K fd ps n ks (gP .none is) (gP .non is) := by
  obtain ⟨oc, od, dV, kV, doc, pm, an, cdv, ct, osl, rfl, lk, hcd, hD, hK⟩ := F.ex
  rcases hD with ⟨_, rfl⟩ | ⟨e, _⟩
  · exact ⟨fun s us ws _ h1 h2 => .of_eq (h kV doc pm an cdv ct us ws h1 h2), fun r rz => r.append (rel_perm rz is)⟩
  · exact absurd rfl e
section
variable {X : Cx} {CX : CXT} {k n : Nat} {f : Addr} {fd : FuncData} {ps ks : List Str} {sp : Sp} {E : XK} {x : Str} {p pos : Pos} {kws : List Keyword} {tk : TA}
variable {g : List Value → List Value → List Value} {gV : List V → List V → List V}
/-- f(k = v, ..), keywords alone -/
theorem pe_callN0 (F : FnOk X.prog X.w X.K X.mg X.base CX k f fd ps sp) (hr : Room k X.A) (hg : Gl X x) (hm : X.mg x = some (.ref f))
    (hk : PySem.W.keepIn X.K (.ref f) = true) (hb : KBn X.K fd ps 0 ks g gV) (hx : Passes CX X E) (hkw : PK X kws tk)
    (hall : (backToKw pos (keywordEach kws X.env)).all (·.1.isSome) = true := by rfl)
    (hks : (backToKw pos (keywordEach kws X.env)).filterMap (·.1) = ks := by rfl)
    (hdb : (x == ("__debug__" : Str)) = false := by decide)
    (hpl : ((backTo pos (starEach [] X.env)).any (·.1) || (backToKw pos (keywordEach kws X.env)).any (·.1.isNone)) = false := by rfl) :
    PE X (.Call (.Name x p) [] kws pos) (tCallN 0 ks.length sp gV E tNil tk) := by
  constructor
  intro pins s σ H Q I h
  apply wpAny_Call_Name_kw
  refine ld_glob I hg hm ?_ hdb
  apply PySem.W.callWith_KW0 (h₀ := X.base) I.ok.mod.kin hk hall ?_ hpl
  apply thn (hkw.run pos pins s σ H _ I h)
  rintro ws s2 ⟨zs, H2, I2, rz, l1, l2, q2⟩
  refine ⟨I2.kIn, ?_⟩
  rw [hks]
  exact run_fnN (us := []) (vs := []) F hr hb hx I2 .nil rz rfl l2 q2
end
end Mc
/-! readings step by step: one small rule a reading, for a walk that is driven by the goal's head -/
namespace Mc
open PySem PySem.Spec PyProof.Rows L2
section
variable {X : Cx}
theorem op_eqI : OpR X (compareOp .Eq) (rI0 fun i j => .bl (decide (i = j))) := opB0 (g := fun i j => decide (i = j)) fun _ _ _ _ _ _ _ q => eq_int q
theorem op_neI : OpR X (compareOp .NotEq) (rI0 fun i j => .bl (!decide (i = j))) := opB0 (g := fun i j => !decide (i = j)) fun _ _ _ _ _ _ _ q => ne_int q
end
/-- all but the object at S is as it was -/
def Frm (S : Addr) (H H' : Hp) : Prop := ∀ b o, b ≠ S → H b = some o → H' b = some o
theorem Frm.refl {S : Addr} (H : Hp) : Frm S H H := fun _ _ _ h => h
theorem Frm.trans {S : Addr} {H H1 H2 : Hp} (a : Frm S H H1) (b : Frm S H1 H2) : Frm S H H2 := fun c o n h => b c o n (a c o n h)
theorem Same.frm {S : Addr} {H H' : Hp} (a : Same H H') : Frm S H H' := fun c o _ h => a c o h
theorem Frm.set {S : Addr} {H : Hp} {o : HO} : Frm S H (upd H S o) := fun b u n e => by rw [upd_ne n]; exact e
theorem Same.new {H : Hp} {p : Addr} {o : HO} (h : H p = none) : Same H (upd H p o) := fun b u e => by
  rw [upd_ne (ne_of_none e h)]
  exact e
theorem Frm.seq {S : Addr} {K : PySem.W.Frag} {H H' : Hp} {a : Addr} {xs : List V} (e : Frm S H H') (n : a ≠ S) (h : SqL K H a xs) : SqL K H' a xs := by
  rcases h with (h | ⟨o, h⟩) | h
  · exact .inl (.inl (e _ _ n h))
  · exact .inl (.inr ⟨o, e _ _ n h⟩)
  · exact .inr h
theorem Frm.tup {S : Addr} {K : PySem.W.Frag} {H H' : Hp} {a : Addr} {xs : List V} (e : Frm S H H') (n : a ≠ S) (h : SqT K H a xs) : SqT K H' a xs := by
  rcases h with (h | ⟨o, h⟩) | h
  · exact .inl (.inl (e _ _ n h))
  · exact .inl (.inr ⟨o, e _ _ n h⟩)
  · exact .inr h
theorem Same.tup {K : PySem.W.Frag} {H H' : Hp} {a : Addr} {xs : List V} (e : Same H H') (h : SqT K H a xs) : SqT K H' a xs := by
  rcases h with (h | ⟨o, h⟩) | h
  · exact .inl (.inl (e _ _ h))
  · exact .inl (.inr ⟨o, e _ _ h⟩)
  · exact .inr h
/-- fresh later is fresh before, but for S -/
theorem Frm.free {S : Addr} {H H' : Hp} (e : Frm S H H') {l : Addr} (n : l ≠ S) (h : H' l = none) : H l = none := by
  cases q : H l with
  | none => rfl
  | some o =>
    rw [e l o n q] at h
    cases h
theorem hp_ne {H : Hp} {a p : Addr} {o o' : HO} (h : a ≠ p) (q : H a = some o) : upd H p o' a = some o := by rw [upd_ne h]; exact q
theorem hp_same {H H' : Hp} {a : Addr} {o : HO} (e : Same H H') (q : H a = some o) : H' a = some o := e _ _ q
theorem hp_frm {S : Addr} {H H' : Hp} {a : Addr} {o : HO} (e : Frm S H H') (n : a ≠ S) (q : H a = some o) : H' a = some o := e _ _ n q
theorem len_ok {α : Type} {xs : List α} (h : xs.length < 100000) : xs.length ≤ sizeLine := Nat.le_trans (Nat.le_of_lt h) (by decide)
theorem len_lt {α : Type} {xs : List α} (h : xs.length < 100000) : xs.length < sizeLine := Nat.lt_of_lt_of_le h (by decide)
section
variable {σ : L2.St} {H : Hp} {Q : VK} {v : V} {ta tb te : TE} {r : R2} {i j : Int} {nx : L2.St → Hp → Prop} {rt : VK} {bk ct : L2.St → Hp → Prop} {t u : TS}
theorem st_var {n : Nat} (h : σ[n]? = some (some v)) (q : Q v H) : tVar n σ H Q := ⟨v, h, q⟩
theorem st_c (q : Q v H) : tC v σ H Q := q
theorem st_op (h : ta σ H fun x H1 => tb σ H1 fun y H2 => r x y H2 Q) : tOp r ta tb σ H Q := h
theorem st_un {r : V → Hp → VK → Prop} (h : ta σ H fun x H1 => r x H1 Q) : tUn r ta σ H Q := h
theorem st_I0 {g : Int → Int → V} (q : Q (g i j) H) : rI0 g (.int i) (.int j) H Q := ⟨i, j, rfl, rfl, q⟩
theorem st_I {C : Int → Int → Prop} {g : Int → Int → V} (c : C i j) (q : Q (g i j) H) : rI C g (.int i) (.int j) H Q := ⟨i, j, rfl, rfl, c, q⟩
theorem st_U {g : Int → V} (q : Q (g i) H) : rU g (.int i) H Q := ⟨i, rfl, q⟩
theorem st_eq {x y : V} (c : scal x y = true) (q : Q (.bl (decide (x = y))) H) : rEq x y H Q := ⟨c, q⟩
theorem st_ne {x y : V} (c : scal x y = true) (q : Q (.bl (!decide (x = y))) H) : rNe x y H Q := ⟨c, q⟩
-- tests and truth values
theorem st_tB {R : Bool → Hp → Prop} (h : ta σ H fun x H1 => ∃ c, x = .bl c ∧ R c H1) : tB ta σ H R := h
theorem st_test {R : Bool → Hp → Prop} (h : ta σ H fun x H1 => ∃ c, x = .bl c ∧ R c H1) : tTest ta σ H R := h
theorem st_exb {b : Bool} {R : Bool → Prop} (h : R b) : ∃ c, V.bl b = .bl c ∧ R c := ⟨b, rfl, h⟩
theorem st_and {c d : TT} {R : Bool → Hp → Prop} (h : c σ H fun k H1 => if k = true then d σ H1 R else R false H1) : tAnd c d σ H R := h
theorem st_or {c d : TT} {R : Bool → Hp → Prop} (h : c σ H fun k H1 => if k = true then R true H1 else d σ H1 R) : tOr c d σ H R := h
theorem st_not {c : TT} {R : Bool → Hp → Prop} (h : c σ H fun k H1 => R (!k) H1) : tNot c σ H R := h
theorem st_andV (h : ta σ H fun x H1 => ∃ c, x = .bl c ∧ if c = true then tb σ H1 Q else Q (.bl false) H1) : tAndV ta tb σ H Q := h
theorem st_orV (h : ta σ H fun x H1 => ∃ c, x = .bl c ∧ if c = true then Q (.bl true) H1 else tb σ H1 Q) : tOrV ta tb σ H Q := h
theorem st_notV (h : ta σ H fun x H1 => ∃ c, x = .bl c ∧ Q (.bl (!c)) H1) : tNotV ta σ H Q := h
theorem st_chain {r' : R2} {tc : TE} (h : ta σ H fun x H1 => tb σ H1 fun y H2 => r x y H2 fun z H3 => ∃ k, z = .bl k ∧ (if k = true then tc σ H3 fun w' H4 => r' y w' H4 Q else Q (.bl false) H3)) : tChain r r' ta tb tc σ H Q := h
theorem st_ifE {c : TT} (h : c σ H fun k H1 => if k = true then ta σ H1 Q else tb σ H1 Q) : tIf c ta tb σ H Q := h
theorem st_yes {R : Bool → Hp → Prop} (h : R true H) : tYes σ H R := h
theorem st_iT {A B : Prop} (h : A) : if true = true then A else B := iteT h
theorem st_iF {A B : Prop} (h : B) : if false = true then A else B := iteF h
theorem st_iD {p A B : Prop} [Decidable p] (h1 : p → A) (h2 : ¬p → B) : if decide p = true then A else B := ite2 (fun h => h1 (of_decide_eq_true h)) fun h => h2 fun z => h (decide_eq_true z)
theorem st_iND {p A B : Prop} [Decidable p] (h1 : ¬p → A) (h2 : p → B) : if (!decide p) = true then A else B := by
  by_cases h : p
  · rw [decide_eq_true h]
    exact iteF (h2 h)
  · rw [decide_eq_false h]
    exact iteT (h1 h)
theorem st_iB {c : Bool} {A B : Prop} (h1 : c = true → A) (h2 : c = false → B) : if c = true then A else B := by
  cases c with
  | true => exact iteT (h1 rfl)
  | false => exact iteF (h2 rfl)
theorem st_iNB {c : Bool} {A B : Prop} (h1 : c = false → A) (h2 : c = true → B) : if (!c) = true then A else B := by
  cases c with
  | true => exact iteF (h2 rfl)
  | false => exact iteT (h1 rfl)
theorem st_iDT {p A B : Prop} [Decidable p] (hp : p) (h : A) : if decide p = true then A else B := by
  rw [decide_eq_true hp]; exact iteT h
theorem st_iDF {p A B : Prop} [Decidable p] (hp : ¬p) (h : B) : if decide p = true then A else B := by
  rw [decide_eq_false hp]; exact iteF h
-- statements
theorem st_seq (h : t ⟨u ⟨nx, rt, bk, ct⟩, rt, bk, ct⟩ σ H) : tSeq t u ⟨nx, rt, bk, ct⟩ σ H := h
theorem st_next (h : nx σ H) : tNext ⟨nx, rt, bk, ct⟩ σ H := h
theorem st_set {n : Nat} (h : te σ H fun x H1 => nx (σ.set n (some x)) H1) : tAsg te (gName n) ⟨nx, rt, bk, ct⟩ σ H := h
theorem st_asg {g : TG} (h : te σ H fun x H1 => g x σ H1 nx) : tAsg te g ⟨nx, rt, bk, ct⟩ σ H := h
theorem st_par {n m : Nat} {ta : TA} (h : ta σ H fun vs H1 => ∃ v w, vs = [v, w] ∧ nx ((σ.set n (some v)).set m (some w)) H1) : tPar n m ta ⟨nx, rt, bk, ct⟩ σ H := h
theorem st_par2 {x y : V} {R : V → V → Prop} (h : R x y) : ∃ v w, [x, y] = [v, w] ∧ R v w := ⟨x, y, rfl, h⟩
theorem st_aug {n : Nat} {ti : TIp} {x : V} (hx : σ[n]? = some (some x)) (h : te σ H fun y H1 => ti x y H1 fun z H2 => nx (σ.set n (some z)) H2) : tAug n te ti ⟨nx, rt, bk, ct⟩ σ H := ⟨x, hx, h⟩
theorem st_ipI {f : Int → Int → Int} (q : Q (.int (f i j)) H) : ipI f (.int i) (.int j) H Q := ⟨i, j, rfl, rfl, q⟩
theorem st_drop (h : te σ H fun _ H1 => nx σ H1) : tDrop te ⟨nx, rt, bk, ct⟩ σ H := h
theorem st_ret (h : te σ H rt) : tRet te ⟨nx, rt, bk, ct⟩ σ H := h
theorem st_retN (h : rt .non H) : tRetN ⟨nx, rt, bk, ct⟩ σ H := h
theorem st_ifS {c : TT} (h : c σ H fun b H1 => if b = true then t ⟨nx, rt, bk, ct⟩ σ H1 else u ⟨nx, rt, bk, ct⟩ σ H1) : tIfS c t u ⟨nx, rt, bk, ct⟩ σ H := h
theorem st_brk (h : bk σ H) : tBreak ⟨nx, rt, bk, ct⟩ σ H := h
theorem st_cont (h : ct σ H) : tCont ⟨nx, rt, bk, ct⟩ σ H := h
-- targets
theorem st_gN {n : Nat} {x : V} {R : L2.St → Hp → Prop} (h : R (σ.set n (some x)) H) : gName n x σ H R := h
theorem st_gT {K : PySem.W.Frag} {a : Addr} {xs : List V} {n : Nat} {t : TGs} {R : L2.St → Hp → Prop} (h : SqT K H a xs) (hn : xs.length = n) (q : t xs σ H R) : gTup K n t (.ref a) σ H R := ⟨a, xs, rfl, h, hn, q⟩
theorem st_gC {t : TG} {u : TGs} {x : V} {xs : List V} {R : L2.St → Hp → Prop} (h : t x σ H fun σ' H' => u xs σ' H' R) : gCons t u (x :: xs) σ H R := ⟨x, xs, rfl, h⟩
theorem st_gE {R : L2.St → Hp → Prop} (h : R σ H) : gNil [] σ H R := ⟨rfl, h⟩
theorem st_gS {to ti : TE} {ts : TSet} {x : V} {R : L2.St → Hp → Prop} (h : to σ H fun o H1 => ti σ H1 fun i H2 => ts o i x H2 fun H3 => R σ H3) : gSub to ti ts x σ H R := h
theorem st_setL {R : Hp → Prop} {p : Addr} {xs : List V} {k : Int} {n : Nat} {x : V} (h : H p = some (.lst xs)) (hk : ixN xs.length k = some n) (q : R (upd H p (.lst (xs.set n x)))) : rSetL (.ref p) (.int k) x H R := ⟨p, xs, k, n, rfl, rfl, h, hk, q⟩
-- arguments, displays, calls
theorem st_nil {R : List V → Hp → Prop} (h : R [] H) : tNil σ H R := h
theorem st_cons {t : TA} {R : List V → Hp → Prop} (h : ta σ H fun x H1 => t σ H1 fun xs H2 => R (x :: xs) H2) : tCons ta t σ H R := h
theorem st_lst {t : TA} (h : t σ H fun xs H1 => xs.length ≤ sizeLine ∧ ∀ p, H1 p = none → Q (.ref p) (upd H1 p (.lst xs))) : tLst t σ H Q := h
theorem st_tup {t : TA} (h : t σ H fun xs H1 => xs.length ≤ sizeLine ∧ ∀ p, H1 p = none → Q (.ref p) (upd H1 p (.tup xs))) : tTup t σ H Q := h
theorem st_new {xs : List V} {R : Addr → Prop} (h : xs.length < 100000) (q : ∀ p, H p = none → R p) : xs.length ≤ sizeLine ∧ ∀ p, H p = none → R p := ⟨len_ok h, q⟩
theorem st_call {sp : Sp} {dvs : List V} {E : XK} {t : TA} (h : t σ H fun vs H1 => sp (vs ++ dvs) H1 Q E) : tCall sp dvs E t σ H Q := h
theorem st_callN {n m : Nat} {sp : Sp} {gV : List V → List V → List V} {E : XK} {t tk : TA} (h : t σ H fun vs H1 => tk σ H1 fun zs H2 => vs.length = n ∧ zs.length = m ∧ sp (gV vs zs) H2 Q E) : tCallN n m sp gV E t tk σ H Q := h
theorem st_cb {r : List V → Hp → VK → Prop} {t : TA} (h : t σ H fun vs H1 => r vs H1 Q) : tCB r t σ H Q := h
theorem st_bm {K : PySem.W.Frag} {T : String} {r : V → List V → Hp → VK → Prop} {to : TE} {t : TA} (h : to σ H fun x H1 => tyV K T x H1 ∧ t σ H1 fun xs H2 => r x xs H2 Q) : tBM K T r to t σ H Q := h
theorem st_bm0 {K : PySem.W.Frag} {T : String} {r : V → List V → Hp → VK → Prop} {to : TE} (h : to σ H fun x H1 => tyV K T x H1 ∧ r x [] H1 Q) : tBM0 K T r to σ H Q := h
theorem st_tyL {K : PySem.W.Frag} {p : Addr} {xs : List V} {R : Prop} (h : SqL K H p xs) (q : R) : tyV K "list" (.ref p) H ∧ R := ⟨.inl ⟨rfl, _, h⟩, q⟩
theorem st_ixL {K : PySem.W.Frag} {p : Addr} {xs : List V} (h : SqL K H p xs) (ha : atI xs i = some v) (q : Q v H) : rIxL K (.ref p) (.int i) H Q := ⟨p, xs, i, v, rfl, rfl, h, ha, q⟩
theorem st_ixT {K : PySem.W.Frag} {p : Addr} {xs : List V} (h : SqT K H p xs) (ha : atI xs i = some v) (q : Q v H) : rIxT K (.ref p) (.int i) H Q := ⟨p, xs, i, v, rfl, rfl, h, ha, q⟩
theorem st_app {p : Addr} {xs : List V} {y : V} (h : H p = some (.lst xs)) (hl : xs.length < 100000) (q : Q .non (upd H p (.lst (xs ++ [y])))) : rAppend (.ref p) [y] H Q := ⟨p, xs, y, rfl, rfl, h, len_lt hl, q⟩
theorem st_cat {p b : Addr} {xs zs : List V} (h : H p = some (.lst xs)) (hb : H b = some (.lst zs)) (hl : xs.length + zs.length < 100000) (q : ∀ c, H c = none → Q (.ref c) (upd H c (.lst (xs ++ zs)))) : rCat (.ref p) (.ref b) H Q :=
  ⟨p, b, xs, zs, rfl, rfl, h, hb, Nat.le_trans (Nat.le_of_lt hl) (by decide), q⟩
theorem st_int {R : Int → Prop} {U : Bool → Prop} (q : R i) : (∃ k, ([V.int i] : List V) = [.int k] ∧ R k) ∨ ∃ k, ([V.int i] : List V) = [.bl k] ∧ U k := .inl ⟨i, rfl, q⟩
theorem st_intb {R : Int → Prop} {U : Bool → Prop} {b : Bool} (q : U b) : (∃ k, ([V.bl b] : List V) = [.int k] ∧ R k) ∨ ∃ k, ([V.bl b] : List V) = [.bl k] ∧ U k := .inr ⟨b, rfl, q⟩
theorem st_i1 {R : Int → Prop} (q : R i) : ∃ k, ([V.int i] : List V) = [.int k] ∧ R k := ⟨i, rfl, q⟩
theorem st_i2 {R : Int → Int → Prop} (q : R i j) : ∃ k l, ([V.int i, V.int j] : List V) = [.int k, .int l] ∧ R k l := ⟨i, j, rfl, q⟩
theorem st_len {R : List V → Prop} {K : PySem.W.Frag} {p : Addr} {xs : List V} (h : SqL K H p xs) (q : R xs) : ∃ a ys, ([V.ref p] : List V) = [.ref a] ∧ (SqL K H a ys ∨ SqT K H a ys) ∧ R ys := ⟨p, xs, rfl, .inl h, q⟩
theorem st_lenT {R : List V → Prop} {K : PySem.W.Frag} {p : Addr} {xs : List V} (h : SqT K H p xs) (q : R xs) : ∃ a ys, ([V.ref p] : List V) = [.ref a] ∧ (SqL K H a ys ∨ SqT K H a ys) ∧ R ys := ⟨p, xs, rfl, .inr h, q⟩
theorem st_powL {k : Int} (c : CPow i j) (e : i ^ j.toNat = k) (q : Q (.int k) H) : rI CPow (fun i j => .int (i ^ j.toNat)) (.int i) (.int j) H Q := ⟨i, j, rfl, rfl, c, by subst e; exact q⟩
theorem st_in {K : PySem.W.Frag} {neg : Bool} {p : Addr} {x : V} {xs : List V} (h : SqL K H p xs ∨ SqT K H p xs) (hx : flatV x = true) (hf : xs.all flatV = true) (q : Q (.bl (if neg then !inV x xs else inV x xs)) H) : rIn K neg x (.ref p) H Q := ⟨p, xs, rfl, h, hx, hf, q⟩
end
end Mc
namespace Mc
open PySem PySem.Spec PyProof.Rows L2
theorem at0 {xs : List V} {v : V} (h : xs[0]? = some v) : atI xs 0 = some v := atI_nat (j := 0) h
theorem at1 {xs : List V} {v : V} (h : xs[1]? = some v) : atI xs 1 = some v := atI_nat (j := 1) h
theorem at2 {xs : List V} {v : V} (h : xs[2]? = some v) : atI xs 2 = some v := atI_nat (j := 2) h
theorem at3 {xs : List V} {v : V} (h : xs[3]? = some v) : atI xs 3 = some v := atI_nat (j := 3) h
end Mc
namespace Mc
open PySem PySem.Spec PyProof.Rows L2
section
variable {X : Cx}
theorem call_minI (hc : X.calm = true) : CallR X (.builtin "min") (fun xs H Q => ∃ i j, xs = [.int i, .int j] ∧ Q (.int (min i j)) H) := by
  intro pins s σ H xs us Q I r ⟨i, j, e, q⟩
  refine call_min2 hc pins s σ H xs us Q I r ⟨i, j, e, ?_⟩
  have e2 : (if j < i then j else i) = min i j := by omega
  rw [e2]
  exact q
theorem call_maxI (hc : X.calm = true) : CallR X (.builtin "max") (fun xs H Q => ∃ i j, xs = [.int i, .int j] ∧ Q (.int (max i j)) H) := by
  intro pins s σ H xs us Q I r ⟨i, j, e, q⟩
  refine call_max2 hc pins s σ H xs us Q I r ⟨i, j, e, ?_⟩
  have e2 : (if j > i then j else i) = max i j := by omega
  rw [e2]
  exact q
end
section
variable {σ : L2.St} {H : Hp} {Q : VK} {v : V} {ta tb te : TE} {i j : Int} {nx : L2.St → Hp → Prop} {rt : VK} {bk ct : L2.St → Hp → Prop} {t u : TS} {g : TG} {wi : TI} {tt : TT} {K : PySem.W.Frag}
theorem st_forI (h : wi σ H fun J H1 => ∃ W : Nat → Nat → L2.St → Hp → Prop, (∃ m, W 0 m σ H1) ∧ ∀ i m σ H, W i m σ H →
    (J.stop i H ∧ nx σ H) ∨ (J.go i H ∧ ∃ N : L2.St → Hp → Prop, (∀ σ' H', N σ' H' → ∃ m', m' < m ∧ W (i + 1) m' σ' H') ∧ ∀ x H', J.yld i H x H' → g x σ H' fun σ2 H2 => u ⟨N, rt, nx, N⟩ σ2 H2)) :
    tFor wi g u ⟨nx, rt, bk, ct⟩ σ H := h
theorem st_lcI {vs : List Nat} (h : wi σ H fun J H1 => ∀ D, H1 D = none → ∃ W : Nat → Nat → Hp → Prop, (∃ m, W 0 m (upd H1 D (.lst []))) ∧ ∀ i m H, W i m H →
    (J.stop i H ∧ Q (.ref D) H) ∨ (J.go i H ∧ ∃ Nx : Hp → Prop, (∀ H', Nx H' → ∃ m', m' < m ∧ W (i + 1) m' H') ∧ ∀ x H', J.yld i H x H' → g x (wipe σ vs) H' fun σ2 H2 => wipe σ2 vs = wipe σ vs ∧ tt σ2 H2 fun b H3 =>
      if b = true then te σ2 H3 fun y H4 => ∃ acc, H4 D = some (.lst acc) ∧ acc.length < sizeLine ∧ Nx (upd H4 D (.lst (acc ++ [y]))) else Nx H3)) :
    tLc wi g tt te vs σ H Q := h
theorem st_itL {tl : TE} {R : It → Hp → Prop} (h : tl σ H fun x H1 => ∃ a, x = .ref a ∧ (∃ xs, SqL K H1 a xs) ∧ R (Itl K a) H1) : iList K tl σ H R := h
theorem st_itT {tl : TE} {R : It → Hp → Prop} (h : tl σ H fun x H1 => ∃ a, x = .ref a ∧ (∃ xs, SqT K H1 a xs) ∧ R (Itt K a) H1) : iTup K tl σ H R := h
theorem st_rng1 {ta : TA} {R : It → Hp → Prop} (h : ta σ H fun vs H1 => ∃ j : Int, vs = [.int j] ∧ -(2 ^ 62) ≤ j ∧ j < 2 ^ 62 ∧ R (Itr 0 j.toNat) H1) : iRng1 ta σ H R := h
theorem st_rng2 {ta : TA} {R : It → Hp → Prop} (h : ta σ H fun vs H1 => ∃ i j : Int, vs = [.int i, .int j] ∧ (-(2 ^ 62) ≤ i ∧ i < 2 ^ 62 ∧ -(2 ^ 62) ≤ j ∧ j < 2 ^ 62) ∧ R (Itr i (j - i).toNat) H1) : iRng2 ta σ H R := h
theorem st_ref {a : Addr} {R : Addr → Prop} (h : R a) : ∃ b, V.ref a = .ref b ∧ R b := ⟨a, rfl, h⟩
theorem q_of {Q : VK} {v v' : V} {H : Hp} (q : Q v H) (e : v' = v) : Q v' H := by rw [e]; exact q
theorem in_int {i : Int} : ∀ {ns : List Int}, inV (.int i) (ns.map V.int) = decide (i ∈ ns)
  | [] => by simp [inV]
  | n :: ns => by
    have h := @in_int i ns
    simp only [inV] at h ⊢
    simp only [List.map_cons, List.any_cons, h, List.mem_cons]
    by_cases e : i = n
    · subst e; simp [eqV]
    · have e2 : ¬ n = i := fun z => e z.symm
      simp [eqV, e, e2]
theorem flat_ints : ∀ (ns : List Int), (ns.map V.int).all flatV = true
  | [] => rfl
  | n :: ns => by
    rw [List.map_cons, List.all_cons, flat_ints ns]
    rfl
end
end Mc
namespace Mc
open PySem PySem.Spec PyProof.Rows L2
section
variable {K : PySem.W.Frag} {a : Addr} {xs : List V} {g : TG} {tb : TS} {nx : L2.St → Hp → Prop} {rt : VK} {σ : L2.St} {H : Hp}
theorem fL (Pv : Nat → L2.St → Hp → Prop) (h0 : Pv 0 σ H) (hl : ∀ i σ H, i ≤ xs.length → Pv i σ H → SqL K H a xs)
    (hs : ∀ i x σ H, xs[i]? = some x → Pv i σ H → g x σ H fun σ2 H2 => tb ⟨Pv (i + 1), rt, nx, Pv (i + 1)⟩ σ2 H2) (hd : ∀ σ H, Pv xs.length σ H → nx σ H) :
    ∃ W : Nat → Nat → L2.St → Hp → Prop, (∃ m, W 0 m σ H) ∧ ∀ i m σ H, W i m σ H →
      ((Itl K a).stop i H ∧ nx σ H) ∨ ((Itl K a).go i H ∧ ∃ N : L2.St → Hp → Prop, (∀ σ' H', N σ' H' → ∃ m', m' < m ∧ W (i + 1) m' σ' H') ∧ ∀ x H', (Itl K a).yld i H x H' → g x σ H' fun σ2 H2 => tb ⟨N, rt, nx, N⟩ σ2 H2) :=
  for_list (D := ⟨nx, rt, nx, nx⟩) Pv h0 hl hs hd
theorem fT (Pv : Nat → L2.St → Hp → Prop) (h0 : Pv 0 σ H) (hl : ∀ i σ H, i ≤ xs.length → Pv i σ H → SqT K H a xs)
    (hs : ∀ i x σ H, xs[i]? = some x → Pv i σ H → g x σ H fun σ2 H2 => tb ⟨Pv (i + 1), rt, nx, Pv (i + 1)⟩ σ2 H2) (hd : ∀ σ H, Pv xs.length σ H → nx σ H) :
    ∃ W : Nat → Nat → L2.St → Hp → Prop, (∃ m, W 0 m σ H) ∧ ∀ i m σ H, W i m σ H →
      ((Itt K a).stop i H ∧ nx σ H) ∨ ((Itt K a).go i H ∧ ∃ N : L2.St → Hp → Prop, (∀ σ' H', N σ' H' → ∃ m', m' < m ∧ W (i + 1) m' σ' H') ∧ ∀ x H', (Itt K a).yld i H x H' → g x σ H' fun σ2 H2 => tb ⟨N, rt, nx, N⟩ σ2 H2) :=
  for_tup (D := ⟨nx, rt, nx, nx⟩) Pv h0 hl hs hd
theorem fR {lo : Int} {n : Nat} (Pv : Nat → L2.St → Hp → Prop) (h0 : Pv 0 σ H)
    (hs : ∀ i σ H, i < n → Pv i σ H → g (.int (lo + i)) σ H fun σ2 H2 => tb ⟨Pv (i + 1), rt, nx, Pv (i + 1)⟩ σ2 H2) (hd : ∀ σ H, Pv n σ H → nx σ H) :
    ∃ W : Nat → Nat → L2.St → Hp → Prop, (∃ m, W 0 m σ H) ∧ ∀ i m σ H, W i m σ H →
      ((Itr lo n).stop i H ∧ nx σ H) ∨ ((Itr lo n).go i H ∧ ∃ N : L2.St → Hp → Prop, (∀ σ' H', N σ' H' → ∃ m', m' < m ∧ W (i + 1) m' σ' H') ∧ ∀ x H', (Itr lo n).yld i H x H' → g x σ H' fun σ2 H2 => tb ⟨N, rt, nx, N⟩ σ2 H2) :=
  for_range (D := ⟨nx, rt, nx, nx⟩) Pv h0 hs hd
/-- the items of a list of ints -/
theorem int_at {ns : List Int} {i : Nat} {x : V} (h : (ns.map V.int)[i]? = some x) : ∃ k, ns[i]? = some k ∧ x = .int k := by
  rw [List.getElem?_map] at h
  cases e : ns[i]? with
  | none => rw [e] at h; cases h
  | some k => rw [e] at h; exact ⟨k, rfl, (Option.some.inj h).symm⟩
end
end Mc
namespace Mc
open PySem PySem.Spec PyProof.Rows L2
/-- these values are these ints -/
inductive IsI : List V → List Int → Prop
  | nil : IsI [] []
  | cons {n : Int} {xs : List V} {ns : List Int} : IsI xs ns → IsI (.int n :: xs) (n :: ns)
theorem IsI.eq : ∀ {xs : List V} {ns : List Int}, IsI xs ns → xs = ns.map V.int
  | _, _, .nil => rfl
  | _, _, .cons h => by rw [h.eq]; rfl
theorem isI_map : ∀ ns : List Int, IsI (ns.map V.int) ns
  | [] => .nil
  | _ :: ns => .cons (isI_map ns)
theorem at_int {ns : List Int} {i : Int} (h0 : 0 ≤ i) (h1 : i < ns.length) : ∃ k, ns[i.toNat]? = some k ∧ atI (ns.map V.int) i = some (.int k) := by
  have hl : i.toNat < ns.length := by omega
  refine ⟨ns[i.toNat], List.getElem?_eq_getElem hl, ?_⟩
  have e : ((i.toNat : Nat) : Int) = i := by omega
  have h := atI_nat (xs := ns.map V.int) (j := i.toNat) (v := .int ns[i.toNat]) (by rw [List.getElem?_map, List.getElem?_eq_getElem hl]; rfl)
  rw [e] at h
  exact h
section
variable {H : Hp} {Q : VK} {i : Int} {K : PySem.W.Frag}
theorem st_ixP {p : Addr} {xs : List V} {ns : List Int} (h : SqL K H p xs) (e : IsI xs ns) (h0 : 0 ≤ i) (h1 : i < ns.length) (q : ∀ k, ns[i.toNat]? = some k → Q (.int k) H) : rIxL K (.ref p) (.int i) H Q := by
  obtain ⟨k, hk, ha⟩ := at_int h0 h1
  rw [e.eq] at h
  exact ⟨p, _, i, _, rfl, rfl, h, ha, q k hk⟩
theorem st_ixPT {p : Addr} {xs : List V} {ns : List Int} (h : SqT K H p xs) (e : IsI xs ns) (h0 : 0 ≤ i) (h1 : i < ns.length) (q : ∀ k, ns[i.toNat]? = some k → Q (.int k) H) : rIxT K (.ref p) (.int i) H Q := by
  obtain ⟨k, hk, ha⟩ := at_int h0 h1
  rw [e.eq] at h
  exact ⟨p, _, i, _, rfl, rfl, h, ha, q k hk⟩
end
theorem Same.by {S : Addr} {H0 H H' : Hp} (a : Same H0 H) (n : H0 S = none) (f : Frm S H H') : Same H0 H' := fun b o e => f b o (ne_of_none e n) (a b o e)
end Mc
namespace Mc
open PySem PySem.Spec PyProof.Rows L2
theorem ne_nf {H : Hp} {a b : Addr} {o : HO} (h' : H b = none) (h : H a = some o) : a ≠ b := ne_of_none h h'
end Mc
namespace Mc
open PySem PySem.Spec PyProof.Rows L2
theorem Frm.tr {S : Addr} {H H1 H2 : Hp} (b : Frm S H1 H2) (a : Frm S H H1) : Frm S H H2 := a.trans b
theorem Frm.trN {S p : Addr} {o : HO} {H H1 : Hp} (b : H1 p = none) (a : Frm S H H1) : Frm S H (upd H1 p o) := a.trans (Same.frm (Same.new b))
theorem Frm.trS {S : Addr} {H H1 H2 : Hp} (b : Same H1 H2) (a : Frm S H H1) : Frm S H H2 := a.trans (Same.frm b)
theorem Frm.trU {S : Addr} {o : HO} {H H1 : Hp} (a : Frm S H H1) : Frm S H (upd H1 S o) := a.trans Frm.set
theorem same_tr {H H1 H2 : Hp} (b : Same H1 H2) (a : Same H H1) : Same H H2 := a.trans b
theorem same_trN {p : Addr} {o : HO} {H H1 : Hp} (b : H1 p = none) (a : Same H H1) : Same H (upd H1 p o) := a.trans (Same.new b)
/-- an object that H does not know may change -/
theorem same_trU {p : Addr} {o : HO} {H H1 : Hp} (n : H p = none) (a : Same H H1) : Same H (upd H1 p o) := fun b u e => by
  rw [upd_ne (ne_of_none e n)]
  exact a b u e
theorem same_free {H H' : Hp} {p : Addr} (n : H' p = none) (a : Same H H') : H p = none := a.free n
theorem frm_free {S p : Addr} {H H' : Hp} (n : H' p = none) (k : p ≠ S) (a : Frm S H H') : H p = none := a.free k n
end Mc
namespace Mc
open PySem PySem.Spec PyProof.Rows L2
theorem Frm.trM {S p : Addr} {o : HO} {H H1 : Hp} (n : H p = none) (a : Frm S H H1) : Frm S H (upd H1 p o) := fun b u k e => by
  rw [upd_ne (ne_of_none e n)]
  exact a b u k e
end Mc
/-! the calendar; data -/
namespace Mc
open PySem PySem.Spec PyProof.Rows L2
/-! ### years and months -/
def leap (y : Int) : Bool := (decide (y % 4 = 0) && !decide (y % 100 = 0)) || decide (y % 400 = 0)
def mlen (y m : Int) : Int := if m = 2 then (if leap y = true then 29 else 28) else if m = 4 ∨ m = 6 ∨ m = 9 ∨ m = 11 then 30 else 31
def dateOk (y m d : Int) : Bool := decide ((1 ≤ m ∧ m ≤ 12) ∧ 1 ≤ d ∧ d ≤ mlen y m)
/-- the length of the month with a number -/
def lenN (n : Int) : Int := mlen (n / 12) (n % 12 + 1)
theorem mlen_bd (y m : Int) : 28 ≤ mlen y m ∧ mlen y m ≤ 31 := by
  unfold mlen
  split
  · split <;> omega
  · split <;> omega
theorem lenN_bd (n : Int) : 28 ≤ lenN n ∧ lenN n ≤ 31 := mlen_bd _ _
theorem lenN_ym {y m : Int} (h0 : 0 ≤ m) (h1 : m < 12) : lenN (12 * y + m) = mlen y (m + 1) := by
  unfold lenN
  rw [show (12 * y + m) / 12 = y by omega, show (12 * y + m) % 12 = m by omega]
theorem mlen_any {y y' m : Int} (h : m ≠ 2) : mlen y m = mlen y' m := by
  unfold mlen
  rw [if_neg h, if_neg h]
theorem mlen_days : ∀ m : _root_.Fin 12, (m : Nat) ≠ 1 → ([31, 0, 31, 30, 31, 30, 31, 31, 30, 31, 30, 31] : List Int)[(m : Nat)]? = some (mlen 0 ((m : Nat) + 1 : Int)) := by decide
theorem lenN_days {n k : Int} (h : n % 12 ≠ 1) (hk : ([31, 0, 31, 30, 31, 30, 31, 31, 30, 31, 30, 31] : List Int)[(n % 12).toNat]? = some k) : k = lenN n := by
  have h2 := mlen_days ⟨(n % 12).toNat, by omega⟩ (by show (n % 12).toNat ≠ 1; omega)
  have h3 := hk.symm.trans h2
  have e : ((((n % 12).toNat : Nat) : Int) + 1) = n % 12 + 1 := by omega
  have h4 : k = mlen 0 ((((n % 12).toNat : Nat) : Int) + 1) := Option.some.inj h3
  rw [h4, e]
  exact mlen_any (by omega)
theorem leap_cyc (y k : Int) : leap (y + 400 * k) = leap y := by
  have h1 : (y + 400 * k) % 4 = y % 4 := by omega
  have h2 : (y + 400 * k) % 100 = y % 100 := by omega
  have h3 : (y + 400 * k) % 400 = y % 400 := by omega
  simp only [leap, h1, h2, h3]
theorem lenN_cyc (n k : Int) : lenN (n + 4800 * k) = lenN n := by
  unfold lenN
  rw [show (n + 4800 * k) / 12 = n / 12 + 400 * k by omega, show (n + 4800 * k) % 12 = n % 12 by omega]
  unfold mlen
  rw [leap_cyc]
/-! ### dates: the number of the month, the day -/
abbrev Dt : Type := Int × Int
def dT (s : Dt) : List V := [.int (s.1 / 12), .int (s.1 % 12 + 1), .int s.2]
def okS (s : Dt) : Prop := 1 ≤ s.2 ∧ s.2 ≤ lenN s.1
theorem okS_ok {s : Dt} (h : okS s) : dateOk (s.1 / 12) (s.1 % 12 + 1) s.2 = true := decide_eq_true ⟨by omega, h⟩
theorem num_eq (n : Int) : 12 * (n / 12) + (n % 12 + 1) - 1 = n := by omega
theorem dT_ym {y m d : Int} (h0 : 1 ≤ m) (h1 : m ≤ 12) : dT (12 * y + m - 1, d) = [.int y, .int m, .int d] := by
  unfold dT
  show [V.int ((12 * y + m - 1) / 12), .int ((12 * y + m - 1) % 12 + 1), .int d] = _
  rw [show (12 * y + m - 1) / 12 = y by omega, show (12 * y + m - 1) % 12 + 1 = m by omega]
theorem okS_ym {y m d : Int} (h : dateOk y m d = true) : okS (12 * y + m - 1, d) := by
  obtain ⟨⟨h0, h1⟩, h2, h3⟩ := of_decide_eq_true h
  refine ⟨h2, ?_⟩
  show d ≤ lenN (12 * y + m - 1)
  rw [show 12 * y + m - 1 = 12 * y + (m - 1) by omega, lenN_ym (by omega) (by omega), show m - 1 + 1 = m by omega]
  exact h3
/-- one step -/
def mvS (s : Dt) (k : Int) : Dt := (s.1 + k, min s.2 (lenN (s.1 + k)))
def mvL (s : Dt) (ns : List Int) : Dt := ns.foldl mvS s
theorem fold_at {α β : Type} {f : β → α → β} {b : β} {xs : List α} {i : Nat} {x : α} (h : xs[i]? = some x) : (xs.take (i + 1)).foldl f b = f ((xs.take i).foldl f b) x := by
  rw [List.take_add_one, h]
  simp only [Option.toList, List.foldl_append, List.foldl_cons, List.foldl_nil]
theorem okS_mv {s : Dt} (h : okS s) (k : Int) : okS (mvS s k) := by
  have := lenN_bd (s.1 + k)
  unfold okS mvS at *
  simp only
  omega
theorem okS_mvL : ∀ {ns : List Int} {s : Dt}, okS s → okS (mvL s ns)
  | [], _, h => h
  | k :: ns, s, h => okS_mvL (ns := ns) (okS_mv h k)
/-! ### least items -/
theorem foldl_min_le : ∀ (l : List Int) (a : Int), l.foldl min a ≤ a ∧ ∀ x ∈ l, l.foldl min a ≤ x
  | [], a => ⟨Int.le_refl _, fun x h => by cases h⟩
  | b :: l, a => by
    obtain ⟨h1, h2⟩ := foldl_min_le l (min a b)
    refine ⟨by simp only [List.foldl_cons]; omega, fun x h => ?_⟩
    simp only [List.foldl_cons]
    rcases List.mem_cons.mp h with e | e
    · subst e; omega
    · exact h2 x e
theorem foldl_min_mem : ∀ (l : List Int) (a : Int), l.foldl min a ∈ a :: l
  | [], a => by simp
  | b :: l, a => by
    have h := foldl_min_mem l (min a b)
    simp only [List.foldl_cons]
    rcases List.mem_cons.mp h with e | e
    · rw [e]
      rcases Int.le_total a b with q | q
      · rw [Int.min_eq_left q]; simp
      · rw [Int.min_eq_right q]; simp
    · exact List.mem_cons_of_mem _ (List.mem_cons_of_mem _ e)
theorem min_eq {l : List Int} {a m : Int} (h1 : m ∈ a :: l) (h2 : ∀ y, y ∈ a :: l → m ≤ y) : m = l.foldl min a := by
  obtain ⟨q1, q2⟩ := foldl_min_le l a
  have e1 : m ≤ l.foldl min a := h2 _ (foldl_min_mem l a)
  rcases List.mem_cons.mp h1 with e | e
  · omega
  · have := q2 _ e; omega
/-! ### renewals -/
def anN (s : Dt) (k t : Int) : Dt := mvS s (k * t)
def rnL (n s : Int) (k : Nat) : List Int := (List.range k).map fun (i : Nat) => lenN (n + s * (i : Int))
def rnN (s : Dt) (k t : Int) : Dt := (s.1 + k * t, (rnL s.1 k ((min t 4800).toNat + 1)).foldl min s.2)
theorem rnL_succ (n s : Int) (k : Nat) : rnL n s (k + 1) = rnL n s k ++ [lenN (n + s * (k : Int))] := by
  unfold rnL
  rw [List.range_succ, List.map_append]
  rfl
theorem rnL_len (n s : Int) (k : Nat) : (rnL n s k).length = k := by simp [rnL]
/-- great numbers' bound -/
def Big (i : Int) : Prop := i.natAbs < 2 ^ 2000
theorem big_of {i : Int} (h0 : -1000000000000000000000000000000000000000000000000000000000000 ≤ i) (h1 : i ≤ 1000000000000000000000000000000000000000000000000000000000000) : Big i := by
  unfold Big
  have : (1000000000000000000000000000000000000000000000000000000000000 : Nat) < 2 ^ 2000 := by decide
  omega
theorem nat_of {i : Int} {b : Nat} (h0 : 0 ≤ i) (h : i < (2 ^ b : Nat)) : i.natAbs < 2 ^ b := by omega
/-! ### data -/
def dD (s : Dt) : PyData := .tuple [.int (s.1 / 12), .int (s.1 % 12 + 1), .int s.2]
section
variable {K : PySem.W.Frag} {H : Hp} {Q : VK}
theorem dp_date {a : Addr} {s : Dt} (h : H a = some (.tup (dT s))) : Dp K H (.ref a) (dD s) := .tup (SqT.of h) (.cons (.int _) (.cons (.int _) (.cons (.int _) .nil)))
theorem st_eqD {x y : V} {d : PyData} (hx : Dp K H x d) (hy : Dp K H y d) (hs : SeqAt.shaped d = true) (q : Q (.bl true) H) : rEqD K x y H Q :=
  ⟨d, d, hx, hy, hs, hs, by rw [SeqAt.eqv_refl d (SeqAt.canLay_of_shaped hs)]; exact q⟩
theorem st_neD {x y : V} {d : PyData} (hx : Dp K H x d) (hy : Dp K H y d) (hs : SeqAt.shaped d = true) (q : Q (.bl false) H) : rNeD K x y H Q :=
  ⟨d, d, hx, hy, hs, hs, by rw [SeqAt.eqv_refl d (SeqAt.canLay_of_shaped hs)]; exact q⟩
theorem sh_dD (s : Dt) : SeqAt.shaped (dD s) = true := rfl
theorem st_cutK {t : TE} {σ : L2.St} {C : VK} (P : VK) (hk : ∀ v H', P v H' → C v H') (h : ∀ C' : VK, (∀ v H', P v H' → C' v H') → t σ H C') : t σ H C := h C hk
theorem st_cutS {t : TS} {σ : L2.St} {nx : L2.St → Hp → Prop} {rt : VK} {bk ct : L2.St → Hp → Prop} (P : L2.St → Hp → Prop) (hk : ∀ σ H', P σ H' → nx σ H') (h : ∀ nx' : L2.St → Hp → Prop, (∀ σ H', P σ H' → nx' σ H') → t ⟨nx', rt, bk, ct⟩ σ H) : t ⟨nx, rt, bk, ct⟩ σ H := h nx hk
theorem st_slT {a : Addr} {xs : List V} {lo hi : Option Int} (h : SqT K H a xs) (hw : ¬ (HT.sIx xs.length 0 lo = 0 ∧ HT.sIx xs.length xs.length hi = xs.length)) (q : ∀ p, H p = none → Q (.ref p) (upd H p (.tup (cutV xs lo hi)))) : rSlT K (.ref a) lo hi H Q := ⟨a, xs, rfl, h, hw, q⟩
theorem st_slL {a : Addr} {xs : List V} {lo hi : Option Int} (h : SqL K H a xs) (q : ∀ p, H p = none → Q (.ref p) (upd H p (.lst (cutV xs lo hi)))) : rSlL K (.ref a) lo hi H Q := ⟨a, xs, rfl, h, q⟩
theorem st_sl {r : V → Option Int → Option Int → Hp → VK → Prop} {te : TE} {tl th : TO} {σ : L2.St} (h : te σ H fun x H1 => tl σ H1 fun l H2 => th σ H2 fun u H3 => r x l u H3 Q) : tSl r te tl th σ H Q := h
theorem st_pN {σ : L2.St} {R : Option Int → Hp → Prop} (h : R none H) : tNoPart σ H R := h
theorem st_pS {t : TE} {σ : L2.St} {R : Option Int → Hp → Prop} (h : t σ H fun x H1 => ∃ i, x = .int i ∧ R (some i) H1) : tPart t σ H R := h
theorem st_pI {i : Int} {R : Int → Prop} (h : R i) : ∃ k, V.int i = .int k ∧ R k := ⟨i, rfl, h⟩
theorem st_rep {l : Addr} {k : Int} {xs : List V} (h : H l = some (.lst xs)) (h0 : -(2 ^ 63) ≤ k) (h1 : k < 2 ^ 63) (hl : xs.length * k.toNat ≤ 100000) (q : ∀ p, H p = none → Q (.ref p) (upd H p (.lst (List.replicate k.toNat xs).flatten))) : rRep (.ref l) (.int k) H Q :=
  ⟨l, k, xs, rfl, rfl, h, h0, h1, Nat.le_trans hl (by decide), q⟩
theorem call_absI {X : Cx} : CallR X (.builtin "abs") (fun xs H Q => ∃ i, xs = [.int i] ∧ Q (.int (max i (-i))) H) := by
  intro pins s σ H xs us Q I r ⟨i, e, q⟩
  refine call_abs pins s σ H xs us Q I r ⟨i, e, ?_⟩
  have e2 : (if i < 0 then -i else i) = max i (-i) := by omega
  rw [e2]
  exact q
end
end Mc
namespace Mc
open PySem PySem.Spec PyProof.Rows L2
/-! ### renewals: the laws -/
theorem mvS_zero {s : Dt} (h : okS s) : mvS s 0 = s := by
  obtain ⟨n, d⟩ := s
  have h2 : d ≤ lenN n := h.2
  unfold mvS
  simp only [Int.add_zero]
  rw [Int.min_eq_left h2]
theorem anN_zero {s : Dt} (h : okS s) (k : Int) : anN s k 0 = s := by
  unfold anN
  rw [Int.mul_zero]
  exact mvS_zero h
theorem anN_one (s : Dt) (k : Int) : anN s k 1 = mvS s k := by
  unfold anN
  rw [Int.mul_one]
theorem rnN_zero {s : Dt} (h : okS s) (k : Int) : rnN s k 0 = s := by
  obtain ⟨n, d⟩ := s
  have h2 : d ≤ lenN n := h.2
  unfold rnN
  show (n + k * 0, ([lenN (n + k * ((0 : Nat) : Int))] : List Int).foldl min d) = (n, d)
  simp only [List.foldl_cons, List.foldl_nil, Int.mul_zero, Int.add_zero, Int.ofNat_zero, Int.natCast_zero]
  rw [Int.min_eq_left h2]
theorem rnN_one {s : Dt} (h : okS s) (k : Int) : rnN s k 1 = mvS s k := by
  obtain ⟨n, d⟩ := s
  have h2 : d ≤ lenN n := h.2
  unfold rnN mvS
  show (n + k * 1, ([lenN (n + k * ((0 : Nat) : Int)), lenN (n + k * ((1 : Nat) : Int))] : List Int).foldl min d) = (n + k, min d (lenN (n + k)))
  have e0 : n + k * ((0 : Nat) : Int) = n := by simp
  have e1 : n + k * ((1 : Nat) : Int) = n + k := by simp
  rw [e0, e1, Int.mul_one]
  simp only [List.foldl_cons, List.foldl_nil]
  rw [Int.min_eq_left h2]
theorem rn_mem {n s : Int} {k i : Nat} (h : i < k) : lenN (n + s * (i : Int)) ∈ rnL n s k := List.mem_map.mpr ⟨i, List.mem_range.mpr h, rfl⟩
theorem rnN_le {s : Dt} {k t : Int} (ht : 0 ≤ t) : (rnN s k t).2 ≤ (anN s k t).2 := by
  obtain ⟨h1, h2⟩ := foldl_min_le (rnL s.1 k ((min t 4800).toNat + 1)) s.2
  have h3 : (rnN s k t).2 ≤ lenN (s.1 + k * t) := by
    by_cases h : t ≤ 4800
    · have q := h2 _ (rn_mem (n := s.1) (s := k) (i := t.toNat) (by omega))
      have e : ((t.toNat : Nat) : Int) = t := by omega
      rw [e] at q
      exact q
    · have q := h2 _ (rn_mem (n := s.1) (s := k) (i := (t % 4800).toNat) (by omega))
      have e : (((t % 4800).toNat : Nat) : Int) = t % 4800 := by omega
      rw [e, ← lenN_cyc _ (k * (t / 4800))] at q
      have e2 : s.1 + k * (t % 4800) + 4800 * (k * (t / 4800)) = s.1 + k * t := by
        rw [Int.mul_left_comm, Int.add_assoc, ← Int.mul_add, Int.emod_add_mul_ediv]
      rw [e2] at q
      exact q
  have h4 : (anN s k t).2 = min s.2 (lenN (s.1 + k * t)) := rfl
  have h5 : (rnN s k t).2 ≤ s.2 := h1
  omega
end Mc
namespace Mc
open PySem PySem.Spec PyProof.Rows L2
/-- behind a statement that stores nothing: what base knows stands -/
theorem st_cutI {t : TS} {σ : L2.St} {H : Hp} {nx : L2.St → Hp → Prop} {rt : VK} {bk ct : L2.St → Hp → Prop} (base : Hp) (hk : ∀ H', Same base H' → nx σ H')
    (h : ∀ nx' : L2.St → Hp → Prop, (∀ H', Same base H' → nx' σ H') → t ⟨nx', rt, bk, ct⟩ σ H) : t ⟨nx, rt, bk, ct⟩ σ H := h nx hk
theorem cutV_two {a b c : V} : cutV [a, b, c] none (some 2) = [a, b] := by
  unfold cutV
  rfl
theorem dT_fst {s s' : Dt} (h : s.1 = s'.1) : cutV (dT s) none (some 2) = cutV (dT s') none (some 2) := by
  unfold dT
  rw [cutV_two, cutV_two, h]
end Mc
namespace Mc
open PySem PySem.Spec PyProof.Rows L2
section
variable {σ : L2.St} {H : Hp} {te : TE} {nx : L2.St → Hp → Prop} {rt : VK} {bk ct : L2.St → Hp → Prop}
theorem st_setF {n : Nat} {f : V → L2.St} (e : ∀ x, List.set σ n (some x) = f x) (h : te σ H fun x H1 => nx (f x) H1) : tAsg te (gName n) ⟨nx, rt, bk, ct⟩ σ H := by
  have e2 : (fun x => List.set σ n (some x)) = f := funext e
  subst e2
  exact h
theorem st_gNF {n : Nat} {x : V} {σ' : L2.St} {R : L2.St → Hp → Prop} (e : List.set σ n (some x) = σ') (h : R σ' H) : gName n x σ H R := by
  subst e
  exact h
theorem st_parF {n m : Nat} {ta : TA} {f : V → V → L2.St} (e : ∀ v w, (List.set σ n (some v)).set m (some w) = f v w) (h : ta σ H fun vs H1 => ∃ v w, vs = [v, w] ∧ nx (f v w) H1) : tPar n m ta ⟨nx, rt, bk, ct⟩ σ H := by
  have e2 : (fun v w => (List.set σ n (some v)).set m (some w)) = f := funext fun v => funext (e v)
  subst e2
  exact h
theorem st_augF {n : Nat} {ti : TIp} {x : V} {f : V → L2.St} (hx : σ[n]? = some (some x)) (e : ∀ z, List.set σ n (some z) = f z) (h : te σ H fun y H1 => ti x y H1 fun z H2 => nx (f z) H2) : tAug n te ti ⟨nx, rt, bk, ct⟩ σ H := by
  have e2 : (fun z => List.set σ n (some z)) = f := funext e
  subst e2
  exact ⟨x, hx, h⟩
end
end Mc
namespace Mc
open PySem PySem.Spec PyProof.Rows L2
section
variable {K : PySem.W.Frag} {H : Hp} {Q : VK}
theorem tyx_list {a : Addr} {xs : List V} (h : SqL K H a xs) : TyX K H (.ref a) (.type "list") := by
  rcases h with (h | ⟨o, h⟩) | ⟨o, _, _, h, hc, _⟩
  · exact .base (.lst h)
  · exact .base (.frz h)
  · exact .kList h hc
theorem tyx_tup {a : Addr} {xs : List V} (h : SqT K H a xs) : TyX K H (.ref a) (.type "tuple") := by
  rcases h with (h | ⟨o, h⟩) | ⟨o, _, _, h, hc, _⟩
  · exact .base (.tup h)
  · exact .fTuple h
  · exact .kTuple h hc
theorem st_isi {x : V} {t n : String} {b : Bool} (hx : TyX K H x (.type t)) (e : kitB t n = some b) (q : Q (.bl b) H) : rIsi K [x, .ty n] H Q := ⟨x, .ty n, .type t, .type n, b, rfl, .ty n, hx, kit_ty e, q⟩
/-- the type's name of plain data -/
def tyN : PyData → String
  | .none => "NoneType" | .bool _ => "bool" | .int _ => "int" | .str _ => "str" | .list _ => "list" | .tuple _ => "tuple" | .dict _ => "dict"
theorem tyx_dp {x : V} {d : PyData} (h : Dp K H x d) : TyX K H x (.type (tyN d)) := by
  cases h with
  | non => exact .base .non
  | bl b => exact .base (.bl b)
  | int i => exact .base (.int i)
  | str x => exact .base (.str x)
  | lst h _ => exact tyx_list h
  | tup h _ => exact tyx_tup h
theorem st_isiD {x : V} {d : PyData} {n : String} {b : Bool} (hx : Dp K H x d) (e : kitB (tyN d) n = some b) (q : Q (.bl b) H) : rIsi K [x, .ty n] H Q := st_isi (tyx_dp hx) e q
mutual
theorem Dp.same {H' : Hp} (e : Same H H') : ∀ {d : PyData} {x : V}, Dp K H x d → Dp K H' x d
  | _, _, .non => .non
  | _, _, .bl b => .bl b
  | _, _, .int i => .int i
  | _, _, .str x => .str x
  | _, _, .lst h a => .lst (e.seq h) (DpAll.same e a)
  | _, _, .tup h a => .tup (Same.tup e h) (DpAll.same e a)
theorem DpAll.same {H' : Hp} (e : Same H H') : ∀ {ds : List PyData} {xs : List V}, DpAll K H xs ds → DpAll K H' xs ds
  | _, _, .nil => .nil
  | _, _, .cons h a => .cons (Dp.same e h) (DpAll.same e a)
end
theorem DpAll.len : ∀ {xs : List V} {ds : List PyData}, DpAll K H xs ds → xs.length = ds.length
  | _, _, .nil => rfl
  | _, _, .cons _ a => by rw [List.length_cons, List.length_cons, DpAll.len a]
theorem DpAll.get : ∀ {xs : List V} {ds : List PyData} {i : Nat} {x : V}, DpAll K H xs ds → xs[i]? = some x → ∃ d, ds[i]? = some d ∧ Dp K H x d
  | _, _, _, _, .nil, h => by cases h
  | _, _, 0, _, .cons h _, e => by cases e; exact ⟨_, rfl, h⟩
  | _ :: vs, _ :: ds, i + 1, x, .cons _ a, e => by
    have e2 : vs[i]? = some x := e
    obtain ⟨d, h1, h2⟩ := DpAll.get a e2
    exact ⟨d, h1, h2⟩
end
theorem lay_get : ∀ {ds : List PyData} {i : Nat} {d : PyData}, PyData.canLayAll0 ds = true → ds[i]? = some d → d.canLay0 = true
  | [], _, _, _, h => by cases h
  | d :: ds, 0, _, hl, h => by
    cases h
    unfold PyData.canLayAll0 at hl
    exact (Bool.and_eq_true_iff.mp hl).1
  | d :: ds, i + 1, _, hl, h => by
    unfold PyData.canLayAll0 at hl
    exact lay_get (Bool.and_eq_true_iff.mp hl).2 h
theorem depth_get : ∀ {ds : List PyData} {i : Nat} {d : PyData}, ds[i]? = some d → d.depth ≤ PyData.depthAll ds
  | [], _, _, h => by cases h
  | d :: ds, 0, _, h => by
    cases h
    unfold PyData.depthAll
    exact Nat.le_max_left _ _
  | d :: ds, i + 1, _, h => by
    unfold PyData.depthAll
    exact Nat.le_trans (depth_get (ds := ds) h) (Nat.le_max_right _ _)
end Mc
namespace Mc
theorem lenN_feb {n : Int} (h : n % 12 = 1) : (28 + if leap (n / 12) = true then 1 else 0) = lenN n := by
  have h2 : n % 12 + 1 = 2 := by omega
  unfold lenN mlen
  rw [if_pos h2]
  cases leap (n / 12) <;> rfl
theorem lenN_oth {n : Int} (h : ¬ n % 12 = 1) : (31 - if decide (n % 12 ∈ [3, 5, 8, 10]) = true then 1 else 0) = lenN n := by
  have h2 : ¬ n % 12 + 1 = 2 := by omega
  unfold lenN mlen
  rw [if_neg h2]
  by_cases q : n % 12 ∈ [3, 5, 8, 10]
  · have q2 := q
    simp only [List.mem_cons, List.not_mem_nil, or_false] at q2
    have h3 : n % 12 + 1 = 4 ∨ n % 12 + 1 = 6 ∨ n % 12 + 1 = 9 ∨ n % 12 + 1 = 11 := by omega
    rw [decide_eq_true q, if_pos h3]
    rfl
  · have q2 := q
    simp only [List.mem_cons, List.not_mem_nil, or_false] at q2
    have h3 : ¬ (n % 12 + 1 = 4 ∨ n % 12 + 1 = 6 ∨ n % 12 + 1 = 9 ∨ n % 12 + 1 = 11) := by omega
    rw [decide_eq_false q, if_neg h3]
    rfl
end Mc
namespace Mc
open PySem PySem.Spec PyProof.Rows L2
/-- all but the objects at S, D is as it was -/
def Frm2 (S D : Addr) (H H' : Hp) : Prop := ∀ b o, b ≠ S → b ≠ D → H b = some o → H' b = some o
section
variable {S D : Addr} {H H1 H2 : Hp}
theorem Frm2.refl (H : Hp) : Frm2 S D H H := fun _ _ _ _ h => h
theorem Frm2.tr (b : Frm2 S D H1 H2) (a : Frm2 S D H H1) : Frm2 S D H H2 := fun c o n m h => b c o n m (a c o n m h)
theorem Frm2.trN {p : Addr} {o : HO} (b : H1 p = none) (a : Frm2 S D H H1) : Frm2 S D H (upd H1 p o) := fun c u n m e => Same.new b c u (a c u n m e)
theorem Frm2.trS (b : Same H1 H2) (a : Frm2 S D H H1) : Frm2 S D H H2 := fun c o n m h => b c o (a c o n m h)
theorem Frm2.trU {o : HO} (a : Frm2 S D H H1) : Frm2 S D H (upd H1 S o) := fun c u n m e => by
  rw [upd_ne n]
  exact a c u n m e
theorem Frm2.trV {o : HO} (a : Frm2 S D H H1) : Frm2 S D H (upd H1 D o) := fun c u n m e => by
  rw [upd_ne m]
  exact a c u n m e
theorem Frm2.trM {p : Addr} {o : HO} (k : H p = none) (a : Frm2 S D H H1) : Frm2 S D H (upd H1 p o) := fun c u n m e => by
  rw [upd_ne (ne_of_none e k)]
  exact a c u n m e
theorem hp_frm2 {a : Addr} {o : HO} (e : Frm2 S D H H1) (n : a ≠ S) (m : a ≠ D) (q : H a = some o) : H1 a = some o := e _ _ n m q
theorem Frm2.seq {K : PySem.W.Frag} {a : Addr} {xs : List V} (e : Frm2 S D H H1) (n : a ≠ S) (m : a ≠ D) (h : SqL K H a xs) : SqL K H1 a xs := by
  rcases h with (h | ⟨o, h⟩) | h
  · exact .inl (.inl (e _ _ n m h))
  · exact .inl (.inr ⟨o, e _ _ n m h⟩)
  · exact .inr h
theorem Frm2.tup {K : PySem.W.Frag} {a : Addr} {xs : List V} (e : Frm2 S D H H1) (n : a ≠ S) (m : a ≠ D) (h : SqT K H a xs) : SqT K H1 a xs := by
  rcases h with (h | ⟨o, h⟩) | h
  · exact .inl (.inl (e _ _ n m h))
  · exact .inl (.inr ⟨o, e _ _ n m h⟩)
  · exact .inr h
theorem Frm2.free {l : Addr} (h : H1 l = none) (n : l ≠ S) (m : l ≠ D) (e : Frm2 S D H H1) : H l = none := by
  cases q : H l with
  | none => rfl
  | some o =>
    rw [e l o n m q] at h
    cases h
theorem Same.by2 {H0 : Hp} (a : Same H0 H) (n : H0 S = none) (m : H0 D = none) (f : Frm2 S D H H1) : Same H0 H1 := fun b o e => f b o (ne_of_none e n) (ne_of_none e m) (a b o e)
end
theorem lay_ints : ∀ ns : List Int, PyData.canLayAll0 (ns.map PyData.int) = true
  | [] => rfl
  | n :: ns => by
    rw [List.map_cons]
    unfold PyData.canLayAll0
    rw [lay_ints ns]
    rfl
theorem depth_ints : ∀ ns : List Int, PyData.depthAll (ns.map PyData.int) = 0
  | [] => rfl
  | n :: ns => by
    rw [List.map_cons]
    unfold PyData.depthAll
    rw [depth_ints ns]
    rfl
theorem sh_ints (ns : List Int) : SeqAt.shaped (.list (ns.map PyData.int)) = true := by
  unfold SeqAt.shaped
  rw [show (PyData.list (ns.map PyData.int)).canLay0 = PyData.canLayAll0 (ns.map PyData.int) from by unfold PyData.canLay0; rfl, lay_ints,
    show (PyData.list (ns.map PyData.int)).depth = PyData.depthAll (ns.map PyData.int) + 1 from by unfold PyData.depth; rfl, depth_ints]
  rfl
theorem dp_ints {K : PySem.W.Frag} {H : Hp} : ∀ ns : List Int, DpAll K H (ns.map V.int) (ns.map PyData.int)
  | [] => .nil
  | n :: ns => .cons (.int n) (dp_ints ns)
theorem dp_intL {K : PySem.W.Frag} {H : Hp} {a : Addr} {ns : List Int} (h : SqL K H a (ns.map V.int)) : Dp K H (.ref a) (.list (ns.map PyData.int)) := .lst h (dp_ints ns)
/-- xs != [] -/
theorem st_neNil {K : PySem.W.Frag} {H : Hp} {Q : VK} {a b : Addr} {ns : List Int} (h : SqL K H a (ns.map V.int)) (hb : SqL K H b []) (q : Q (.bl (!ns.isEmpty)) H) : rNeD K (.ref a) (.ref b) H Q := by
  refine ⟨_, .list [], dp_intL h, .lst hb .nil, sh_ints ns, rfl, ?_⟩
  cases ns with
  | nil => exact q
  | cons n ns => exact q
theorem st_whI {c : TT} {tb : TS} {σ : L2.St} {H : Hp} {nx : L2.St → Hp → Prop} {rt : VK} {bk ct : L2.St → Hp → Prop} (W : Nat → L2.St → Hp → Prop) (h0 : ∃ m, W m σ H)
    (h : ∀ m σ H, W m σ H → c σ H fun b H1 => if b = true then tb ⟨fun σ' H' => ∃ m', m' < m ∧ W m' σ' H', rt, nx, fun σ' H' => ∃ m', m' < m ∧ W m' σ' H'⟩ σ H1 else nx σ H1)
    (mono : ∀ σ H Q Q', (∀ b H1, Q b H1 → Q' b H1) → c σ H Q → c σ H Q') : tWhile c tb ⟨nx, rt, bk, ct⟩ σ H := by
  refine ⟨W, h0, fun m σ H hW => mono _ _ _ _ (fun b H1 q => ?_) (h m σ H hW)⟩
  cases b with
  | true =>
    rw [if_pos rfl] at q ⊢
    exact ⟨_, fun _ _ x => x, q⟩
  | false =>
    rw [if_neg Bool.false_ne_true] at q ⊢
    exact q
end Mc
namespace Mc
open PySem PySem.Spec PyProof.Rows L2
theorem st_wh {c : TT} {tb : TS} {σ : L2.St} {H : Hp} {nx : L2.St → Hp → Prop} {rt : VK} {bk ct : L2.St → Hp → Prop} (W : Nat → L2.St → Hp → Prop) (h0 : ∃ m, W m σ H)
    (h : ∀ m σ H, W m σ H → c σ H fun b H1 => if b = true then ∃ N : L2.St → Hp → Prop, (∀ σ' H', N σ' H' → ∃ m', m' < m ∧ W m' σ' H') ∧ tb ⟨N, rt, nx, N⟩ σ H1 else nx σ H1) :
    tWhile c tb ⟨nx, rt, bk, ct⟩ σ H := ⟨W, h0, h⟩
theorem st_whN {tb : TS} {σ : L2.St} {H : Hp} {nx : L2.St → Hp → Prop} {rt : VK} {W : Nat → L2.St → Hp → Prop} {m : Nat}
    (h : tb ⟨fun σ' H' => ∃ m', m' < m ∧ W m' σ' H', rt, nx, fun σ' H' => ∃ m', m' < m ∧ W m' σ' H'⟩ σ H) :
    ∃ N : L2.St → Hp → Prop, (∀ σ' H', N σ' H' → ∃ m', m' < m ∧ W m' σ' H') ∧ tb ⟨N, rt, nx, N⟩ σ H := ⟨_, fun _ _ x => x, h⟩
theorem st_popAt {p : Addr} {xs : List V} {y : V} {H : Hp} {Q : VK} (h : H p = some (.lst (y :: xs))) (q : Q y (upd H p (.lst xs))) : rPopAt (.ref p) [.int 0] H Q :=
  ⟨p, y :: xs, 0, 0, y, rfl, rfl, h, by decide, by decide, seqIndex_of (by decide) (by rw [List.length_cons]; omega), rfl, q⟩
end Mc
namespace Mc
open PySem PySem.Spec PyProof.Rows L2
/-- len of a list or tuple -/
def rLenQ (K : PySem.W.Frag) : List V → Hp → VK → Prop := fun xs H Q => ∃ p ys, xs = [.ref p] ∧ (SqL K H p ys ∨ SqT K H p ys) ∧ Q (.int ys.length) H
theorem call_lenQ {X : Cx} : CallR X (.builtin "len") (rLenQ X.K) := call_len_seq
theorem st_lenQ {K : PySem.W.Frag} {H : Hp} {Q : VK} {p : Addr} {xs : List V} (h : SqL K H p xs) (q : Q (.int xs.length) H) : rLenQ K [.ref p] H Q := ⟨p, xs, rfl, .inl h, q⟩
theorem st_lenQT {K : PySem.W.Frag} {H : Hp} {Q : VK} {p : Addr} {xs : List V} (h : SqT K H p xs) (q : Q (.int xs.length) H) : rLenQ K [.ref p] H Q := ⟨p, xs, rfl, .inr h, q⟩
end Mc
namespace Mc
open PySem PySem.Spec PyProof.Rows L2
section
variable {K : PySem.W.Frag} {H : Hp} {Q : VK}
theorem isi_non_bool (q : Q (.bl false) H) : rIsi K [.non, .ty "bool"] H Q := st_isi (t := "NoneType") (.base .non) (by decide +kernel) q
theorem isi_non_int (q : Q (.bl false) H) : rIsi K [.non, .ty "int"] H Q := st_isi (t := "NoneType") (.base .non) (by decide +kernel) q
theorem isi_non_str (q : Q (.bl false) H) : rIsi K [.non, .ty "str"] H Q := st_isi (t := "NoneType") (.base .non) (by decide +kernel) q
theorem isi_non_list (q : Q (.bl false) H) : rIsi K [.non, .ty "list"] H Q := st_isi (t := "NoneType") (.base .non) (by decide +kernel) q
theorem isi_non_tuple (q : Q (.bl false) H) : rIsi K [.non, .ty "tuple"] H Q := st_isi (t := "NoneType") (.base .non) (by decide +kernel) q
theorem isi_bl_bool {b : Bool} (q : Q (.bl true) H) : rIsi K [.bl b, .ty "bool"] H Q := st_isi (t := "bool") (.base (.bl b)) (by decide +kernel) q
theorem isi_bl_int {b : Bool} (q : Q (.bl true) H) : rIsi K [.bl b, .ty "int"] H Q := st_isi (t := "bool") (.base (.bl b)) (by decide +kernel) q
theorem isi_bl_str {b : Bool} (q : Q (.bl false) H) : rIsi K [.bl b, .ty "str"] H Q := st_isi (t := "bool") (.base (.bl b)) (by decide +kernel) q
theorem isi_bl_list {b : Bool} (q : Q (.bl false) H) : rIsi K [.bl b, .ty "list"] H Q := st_isi (t := "bool") (.base (.bl b)) (by decide +kernel) q
theorem isi_bl_tuple {b : Bool} (q : Q (.bl false) H) : rIsi K [.bl b, .ty "tuple"] H Q := st_isi (t := "bool") (.base (.bl b)) (by decide +kernel) q
theorem isi_int_bool {i : Int} (q : Q (.bl false) H) : rIsi K [.int i, .ty "bool"] H Q := st_isi (t := "int") (.base (.int i)) (by decide +kernel) q
theorem isi_int_int {i : Int} (q : Q (.bl true) H) : rIsi K [.int i, .ty "int"] H Q := st_isi (t := "int") (.base (.int i)) (by decide +kernel) q
theorem isi_int_str {i : Int} (q : Q (.bl false) H) : rIsi K [.int i, .ty "str"] H Q := st_isi (t := "int") (.base (.int i)) (by decide +kernel) q
theorem isi_int_list {i : Int} (q : Q (.bl false) H) : rIsi K [.int i, .ty "list"] H Q := st_isi (t := "int") (.base (.int i)) (by decide +kernel) q
theorem isi_int_tuple {i : Int} (q : Q (.bl false) H) : rIsi K [.int i, .ty "tuple"] H Q := st_isi (t := "int") (.base (.int i)) (by decide +kernel) q
theorem isi_str_bool {x : Str} (q : Q (.bl false) H) : rIsi K [.str x, .ty "bool"] H Q := st_isi (t := "str") (.base (.str x)) (by decide +kernel) q
theorem isi_str_int {x : Str} (q : Q (.bl false) H) : rIsi K [.str x, .ty "int"] H Q := st_isi (t := "str") (.base (.str x)) (by decide +kernel) q
theorem isi_str_str {x : Str} (q : Q (.bl true) H) : rIsi K [.str x, .ty "str"] H Q := st_isi (t := "str") (.base (.str x)) (by decide +kernel) q
theorem isi_str_list {x : Str} (q : Q (.bl false) H) : rIsi K [.str x, .ty "list"] H Q := st_isi (t := "str") (.base (.str x)) (by decide +kernel) q
theorem isi_str_tuple {x : Str} (q : Q (.bl false) H) : rIsi K [.str x, .ty "tuple"] H Q := st_isi (t := "str") (.base (.str x)) (by decide +kernel) q
theorem isi_list_bool {a : Addr} {xs : List V} (h : SqL K H a xs) (q : Q (.bl false) H) : rIsi K [.ref a, .ty "bool"] H Q := st_isi (t := "list") (tyx_list h) (by decide +kernel) q
theorem isi_list_int {a : Addr} {xs : List V} (h : SqL K H a xs) (q : Q (.bl false) H) : rIsi K [.ref a, .ty "int"] H Q := st_isi (t := "list") (tyx_list h) (by decide +kernel) q
theorem isi_list_str {a : Addr} {xs : List V} (h : SqL K H a xs) (q : Q (.bl false) H) : rIsi K [.ref a, .ty "str"] H Q := st_isi (t := "list") (tyx_list h) (by decide +kernel) q
theorem isi_list_list {a : Addr} {xs : List V} (h : SqL K H a xs) (q : Q (.bl true) H) : rIsi K [.ref a, .ty "list"] H Q := st_isi (t := "list") (tyx_list h) (by decide +kernel) q
theorem isi_list_tuple {a : Addr} {xs : List V} (h : SqL K H a xs) (q : Q (.bl false) H) : rIsi K [.ref a, .ty "tuple"] H Q := st_isi (t := "list") (tyx_list h) (by decide +kernel) q
theorem isi_tuple_bool {a : Addr} {xs : List V} (h : SqT K H a xs) (q : Q (.bl false) H) : rIsi K [.ref a, .ty "bool"] H Q := st_isi (t := "tuple") (tyx_tup h) (by decide +kernel) q
theorem isi_tuple_int {a : Addr} {xs : List V} (h : SqT K H a xs) (q : Q (.bl false) H) : rIsi K [.ref a, .ty "int"] H Q := st_isi (t := "tuple") (tyx_tup h) (by decide +kernel) q
theorem isi_tuple_str {a : Addr} {xs : List V} (h : SqT K H a xs) (q : Q (.bl false) H) : rIsi K [.ref a, .ty "str"] H Q := st_isi (t := "tuple") (tyx_tup h) (by decide +kernel) q
theorem isi_tuple_list {a : Addr} {xs : List V} (h : SqT K H a xs) (q : Q (.bl false) H) : rIsi K [.ref a, .ty "list"] H Q := st_isi (t := "tuple") (tyx_tup h) (by decide +kernel) q
theorem isi_tuple_tuple {a : Addr} {xs : List V} (h : SqT K H a xs) (q : Q (.bl true) H) : rIsi K [.ref a, .ty "tuple"] H Q := st_isi (t := "tuple") (tyx_tup h) (by decide +kernel) q
theorem st_isN {x y : V} (e : y = .non) (q : Q (.bl (decide (x = .non))) H) : y = V.non ∧ Q (.bl (decide (x = .non))) H := ⟨e, q⟩
theorem st_ixSL {a : Addr} {xs : List V} {i : Int} {v : V} (h : SqL K H a xs) (ha : atI xs i = some v) (q : Q v H) : rIx K (.ref a) (.int i) H Q := .inl ⟨a, xs, i, v, rfl, rfl, h, ha, q⟩
theorem st_ixST {a : Addr} {xs : List V} {i : Int} {v : V} (h : SqT K H a xs) (ha : atI xs i = some v) (q : Q v H) : rIx K (.ref a) (.int i) H Q := .inr (.inl ⟨a, xs, i, v, rfl, rfl, h, ha, q⟩)
end
end Mc
namespace Mc
theorem st_iNT {A B : Prop} (h : A) : if (!false) = true then A else B := L2.iteT h
theorem st_iNF {A B : Prop} (h : B) : if (!true) = true then A else B := L2.iteF h
theorem st_iRf {α : Type} {x : α} [Decidable (x = x)] {A B : Prop} (h : A) : if decide (x = x) = true then A else B := by rw [decide_eq_true rfl]; exact L2.iteT h
theorem st_iNRf {α : Type} {x : α} [Decidable (x = x)] {A B : Prop} (h : B) : if (!decide (x = x)) = true then A else B := by rw [decide_eq_true rfl]; exact L2.iteF h
end Mc
namespace Mc
open PySem PySem.Spec PyProof.Rows L2
mutual
/-- how many parts data have -/
def cntD : PyData → Nat
  | .list xs => cntA xs + 1
  | .tuple xs => cntA xs + 1
  | .none => 1
  | .bool _ => 1
  | .int _ => 1
  | .str _ => 1
  | .dict _ => 1
def cntA : List PyData → Nat
  | [] => 0
  | x :: xs => cntD x + cntA xs
end
theorem cntD_pos : ∀ d : PyData, 1 ≤ cntD d
  | .list xs => by unfold cntD; omega
  | .tuple xs => by unfold cntD; omega
  | .none => by unfold cntD; omega
  | .bool _ => by unfold cntD; omega
  | .int _ => by unfold cntD; omega
  | .str _ => by unfold cntD; omega
  | .dict _ => by unfold cntD; omega
theorem cntA_len : ∀ ds : List PyData, ds.length ≤ cntA ds
  | [] => Nat.zero_le _
  | d :: ds => by
    have := cntA_len ds
    have := cntD_pos d
    unfold cntA
    rw [List.length_cons]
    omega
theorem cntA_get : ∀ {ds : List PyData} {i : Nat} {d : PyData}, ds[i]? = some d → cntD d ≤ cntA ds
  | [], _, _, h => by cases h
  | d :: ds, 0, _, h => by
    cases h
    unfold cntA
    omega
  | d :: ds, i + 1, _, h => by
    have := cntA_get (ds := ds) h
    unfold cntA
    omega
theorem cnt_ints : ∀ ns : List Int, cntA (ns.map PyData.int) = ns.length
  | [] => rfl
  | n :: ns => by
    rw [List.map_cons]
    unfold cntA
    rw [cnt_ints ns, List.length_cons]
    unfold cntD
    omega
end Mc
/-! data that are small enough to be compared; years and their months -/
namespace Mc
open PySem PySem.Spec PyProof.Rows L2
/-- data of depth n at most and c parts at most, laid out -/
def Sm (d : PyData) (n c : Nat) : Prop := d.canLay0 = true ∧ d.depth ≤ n ∧ cntD d ≤ c
def SmA (ds : List PyData) (n c : Nat) : Prop := PyData.canLayAll0 ds = true ∧ PyData.depthAll ds ≤ n ∧ cntA ds ≤ c
theorem Sm.nil : SmA [] 0 0 := ⟨rfl, Nat.zero_le _, Nat.zero_le _⟩
theorem Sm.cons {d : PyData} {ds : List PyData} {n m c c' : Nat} (h : Sm d n c) (h' : SmA ds m c') : SmA (d :: ds) (max n m) (c + c') := by
  obtain ⟨a, b, e⟩ := h
  obtain ⟨a', b', e'⟩ := h'
  refine ⟨?_, ?_, ?_⟩
  · unfold PyData.canLayAll0
    rw [a, a']
    rfl
  · unfold PyData.depthAll
    omega
  · unfold cntA
    omega
theorem Sm.list {ds : List PyData} {n c : Nat} (h : SmA ds n c) : Sm (.list ds) (n + 1) (c + 1) := by
  obtain ⟨a, b, e⟩ := h
  refine ⟨?_, ?_, ?_⟩
  · unfold PyData.canLay0
    exact a
  · unfold PyData.depth
    omega
  · unfold cntD
    omega
theorem Sm.tuple {ds : List PyData} {n c : Nat} (h : SmA ds n c) : Sm (.tuple ds) (n + 1) (c + 1) := by
  obtain ⟨a, b, e⟩ := h
  refine ⟨?_, ?_, ?_⟩
  · unfold PyData.canLay0
    exact a
  · unfold PyData.depth
    omega
  · unfold cntD
    omega
theorem Sm.int (i : Int) : Sm (.int i) 0 1 := ⟨by unfold PyData.canLay0; rfl, by unfold PyData.depth; omega, by unfold cntD; omega⟩
theorem Sm.bool (i : Bool) : Sm (.bool i) 0 1 := ⟨by unfold PyData.canLay0; rfl, by unfold PyData.depth; omega, by unfold cntD; omega⟩
theorem Sm.none : Sm .none 0 1 := ⟨by unfold PyData.canLay0; rfl, by unfold PyData.depth; omega, by unfold cntD; omega⟩
theorem Sm.ints (ns : List Int) : SmA (ns.map PyData.int) 0 ns.length := ⟨lay_ints ns, by rw [depth_ints]; omega, by rw [cnt_ints]; omega⟩
/-- the facts that the comparison asks -/
theorem Sm.use {d : PyData} {n c m : Nat} (h : Sm d n c) (hn : n < m) (hc : c ≤ 1152921504606846976) {R : Prop} (q : R) : d.canLay0 = true ∧ d.depth < m ∧ cntD d ≤ 1152921504606846976 ∧ R :=
  ⟨h.1, Nat.lt_of_le_of_lt h.2.1 hn, Nat.le_trans h.2.2 hc, q⟩
theorem Sm.sh {d : PyData} {n c : Nat} (h : Sm d n c) (hn : n ≤ 60) : SeqAt.shaped d = true := by
  unfold SeqAt.shaped
  rw [h.1, Bool.true_and, decide_eq_true]
  exact Nat.le_trans h.2.1 (Nat.le_trans hn (by decide))
theorem dp_bls {K : PySem.W.Frag} {H : Hp} : ∀ bs : List Bool, DpAll K H (bs.map V.bl) (bs.map PyData.bool)
  | [] => .nil
  | b :: bs => .cons (.bl b) (dp_bls bs)
theorem Sm.bools : ∀ bs : List Bool, SmA (bs.map PyData.bool) 0 bs.length
  | [] => Sm.nil
  | b :: bs => by
    have h := Sm.cons (Sm.bool b) (Sm.bools bs)
    obtain ⟨a, b, c⟩ := h
    exact ⟨a, Nat.le_trans b (by omega), Nat.le_trans c (by rw [List.length_cons]; omega)⟩
/-- the months of a year -/
def yL (y : Int) : List Int := (List.range 12).map fun (i : Nat) => mlen y (1 + (i : Int))
theorem yL_eq (y : Int) : yL y = [31, 28 + if leap y = true then 1 else 0, 31, 30, 31, 30, 31, 31, 30, 31, 30, 31] := by
  unfold yL
  simp only [List.range, List.range.loop, List.map_cons, List.map_nil]
  unfold mlen
  cases leap y <;> rfl
theorem yL_sum (y : Int) : (yL y).sum = 365 + if leap y = true then 1 else 0 := by
  rw [yL_eq]
  cases leap y <;> rfl
theorem yL_cyc (y k : Int) : yL (y + 400 * k) = yL y := by
  rw [yL_eq, yL_eq, leap_cyc]
theorem mlen_back (y m : Int) : mlen (y - 400) m = mlen y m := by
  have h : leap (y - 400) = leap y := by
    rw [show y - 400 = y + 400 * (-1) by omega, leap_cyc]
  unfold mlen
  rw [h]
def ySum (y : Int) (n : Nat) : Int := ((List.range n).map fun (i : Nat) => (yL (y + (i : Int))).sum).sum
theorem ySum_succ (y : Int) (n : Nat) : ySum y (n + 1) = ySum y n + (yL (y + (n : Int))).sum := by
  unfold ySum
  rw [List.range_succ, List.map_append, List.sum_append]
  simp
theorem ySum_step (y : Int) : ∀ n : Nat, ySum (y + 1) n = ySum y n + (yL (y + (n : Int))).sum - (yL y).sum
  | 0 => by
    unfold ySum
    simp
  | n + 1 => by
    rw [ySum_succ, ySum_succ, ySum_step y n, show y + 1 + (n : Int) = y + ((n + 1 : Nat) : Int) by omega]
    omega
theorem ySum_nat : ∀ n : Nat, ySum (n : Int) 400 = ySum 0 400
  | 0 => rfl
  | n + 1 => by
    rw [show ((n + 1 : Nat) : Int) = (n : Int) + 1 by omega, ySum_step, ySum_nat n, show (n : Int) + ((400 : Nat) : Int) = (n : Int) + 400 * 1 by omega, yL_cyc]
    omega
theorem ySum_cyc (y k : Int) (n : Nat) : ySum (y + 400 * k) n = ySum y n := by
  unfold ySum
  congr 1
  refine List.map_congr_left fun i _ => ?_
  rw [show y + 400 * k + (i : Int) = y + (i : Int) + 400 * k by omega, yL_cyc]
theorem ySum_0 : ySum 0 400 = 146097 := by decide +kernel
theorem ySum_all (y : Int) : ySum y 400 = 146097 := by
  have h := ySum_cyc (y % 400) (y / 400) 400
  rw [show y % 400 + 400 * (y / 400) = y by omega] at h
  rw [h, show y % 400 = ((y % 400).toNat : Int) by omega, ySum_nat, ySum_0]
end Mc
/-! repr of data, in the law's own frame (there no repr is under way); the law's end for such a law -/
namespace Mc
open PySem PySem.Spec PyProof.Rows L2
/-- data that have a text of n characters at most -/
def Tx (d : PyData) (n : Nat) : Prop := d.showable = true ∧ d.hasDict = false ∧ d.shown.length ≤ n
def TxA (ds : List PyData) (n : Nat) : Prop := PyData.showableAll ds = true ∧ PyData.hasDictAll ds = false ∧ piled (PyData.shownAll ds) ≤ n
theorem TxA.nil : TxA [] 0 := ⟨rfl, rfl, Nat.le_refl _⟩
theorem TxA.cons {d : PyData} {ds : List PyData} {n m : Nat} (h : Tx d n) (h' : TxA ds m) : TxA (d :: ds) (n + 2 + m) := by
  obtain ⟨a, b, c⟩ := h
  obtain ⟨a', b', c'⟩ := h'
  refine ⟨?_, ?_, ?_⟩
  · unfold PyData.showableAll
    rw [a, a']
    rfl
  · unfold PyData.hasDictAll
    rw [b, b']
    rfl
  · unfold PyData.shownAll
    rw [piled_cons]
    omega
theorem textFrom_le : ∀ (ts : List Str) (k : Nat) (acc : Str), (textFrom k acc ts).length ≤ acc.length + piled ts
  | [], k, acc => Nat.le_add_right _ _
  | t :: ts, k, acc => by
    have h := textFrom_le ts (k + 1) (acc ++ (if k > 0 then ", " else "" : String) ++ t)
    rw [piled_cons]
    unfold textFrom
    refine Nat.le_trans h ?_
    rw [PySem.Str.length_append, PySem.Str.length_append]
    have e : (Str.ofString (if k > 0 then ", " else "" : String)).length ≤ 2 := by split <;> decide
    omega
theorem Tx.list {ds : List PyData} {n : Nat} (h : TxA ds n) : Tx (.list ds) (n + 2) := by
  obtain ⟨a, b, c⟩ := h
  refine ⟨?_, ?_, ?_⟩
  · unfold PyData.showable
    exact a
  · unfold PyData.hasDict
    exact b
  · unfold PyData.shown listText
    rw [PySem.Str.length_append]
    have h := textFrom_le (PyData.shownAll ds) 0 "["
    have e1 : (Str.ofString "[").length = 1 := rfl
    have e2 : (Str.ofString "]").length = 1 := rfl
    omega
theorem Tx.tuple {ds : List PyData} {n : Nat} (h : TxA ds n) : Tx (.tuple ds) (n + 3) := by
  obtain ⟨a, b, c⟩ := h
  refine ⟨?_, ?_, ?_⟩
  · unfold PyData.showable
    exact a
  · unfold PyData.hasDict
    exact b
  · unfold PyData.shown tupleText
    rw [PySem.Str.length_append, PySem.Str.length_append]
    have e1 : (Str.ofString "(").length = 1 := rfl
    have e2 : (Str.ofString (if (PyData.shownAll ds).length == 1 then ",)" else ")" : String)).length ≤ 2 := by split <;> decide
    have e3 : (Str.join ", " (PyData.shownAll ds)).length ≤ piled (PyData.shownAll ds) := by
      cases q : PyData.shownAll ds with
      | nil => decide
      | cons y ys =>
        have z := join_length_add (y :: ys) (by simp)
        omega
    omega
theorem Tx.int {i : Int} {b : Nat} (h0 : 0 < b) (h1 : b ≤ 1900) (h : i.natAbs < 2 ^ b) : Tx (.int i) (b + 1) := by
  have l : i.natAbs.log2 < b := PySem.Flt.log2_lt_of h0 h
  refine ⟨?_, rfl, ?_⟩
  · unfold PyData.showable
    exact decide_eq_true (by omega)
  · unfold PyData.shown
    rw [PySem.ofString_length]
    exact int_text_length_le h0 l
theorem Tx.ints {b : Nat} (h0 : 0 < b) (h1 : b ≤ 1900) : ∀ ns : List Int, (∀ i ∈ ns, i.natAbs < 2 ^ b) → TxA (ns.map PyData.int) ((b + 3) * ns.length)
  | [], _ => TxA.nil
  | i :: ns, h => by
    have z := TxA.cons (Tx.int h0 h1 (h i (List.mem_cons_self ..))) (Tx.ints h0 h1 ns fun j hj => h j (List.mem_cons_of_mem _ hj))
    obtain ⟨a, b', c⟩ := z
    refine ⟨a, b', Nat.le_trans c ?_⟩
    rw [List.length_cons, Nat.mul_succ]
    omega
theorem Tx.mono {d : PyData} {n m : Nat} (h : Tx d n) (l : n ≤ m) : Tx d m := ⟨h.1, h.2.1, Nat.le_trans h.2.2 l⟩
theorem TxA.mono {d : List PyData} {n m : Nat} (h : TxA d n) (l : n ≤ m) : TxA d m := ⟨h.1, h.2.1, Nat.le_trans h.2.2 l⟩
/-- repr(a), a a list or tuple of data -/
def rRepr (K : PySem.W.Frag) : List V → Hp → VK → Prop := fun xs H Q => ∃ (a : Addr) (d : PyData) (n : Nat), xs = [.ref a] ∧ Dp K H (.ref a) d ∧ Tx d n ∧ n ≤ 10000000 ∧ d.depth ≤ 60 ∧ Q (.str d.shown) H
theorem call_reprD {X : Cx} {k : Nat} (hg : X.A.guards = some []) (hr : Room k X.A) : CallR X (.builtin "repr") (rRepr X.K) := by
  intro pins s σ H xs us Q I r h
  obtain ⟨a, d, n, rfl, hd, ht, hn, hp, q⟩ := h
  cases r with
  | cons r1 r2 =>
    cases r2
    cases r1
    obtain ⟨as, hR⟩ := Dp.reads I d (.ref a) (.ref a) hd rfl
    refine repr_of_reads' hR ht.1 (PyData.noDict_hsm ht.2.1) hg (by have := hr.un; omega) (fun _ _ e => e) (fun h' u tk hk => ⟨.str d.shown, H, I.kept hk, ⟨_, rfl⟩, q⟩) (Nat.le_trans ht.2.2 (Nat.le_trans hn (by decide)))
/-- the law's own call, from the top -/
structure TopOk (P : Program) (w : World) (K : PySem.W.Frag) (mg : Str → Option Value) (base : Heap) (CX : CXT) (f : Addr) (fd : FuncData) (x : Str) (sp : Sp) : Prop where
  run : ∀ (s : Shared) (H : Hp) (u : Value) (v : V) (Q : VK) (E : XK), Env0 P w K mg base callerA [] s H → BindsTo s fd ⟨[u], []⟩ [(x, u)] → RelV v u → sp [v] H Q E →
    codeAny (model P w) callerA (.call (.ref f) ⟨[u], []⟩) (CR CX [] P w H s Q E) s
theorem top_ok {P : Program} {w : World} {K : PySem.W.Frag} {mg : Str → Option Value} {base : Heap} {y qual : Str} {params : Arguments} {body : List Stmt} {scope : Scope} {dvs : List V} {kws : List (Str × V)} {f : Addr} {fd : FuncData}
    {CX : CXT} {N : List Str} {x : Str} {k : Nat} {sp : Sp} (F : FunD K y qual params body scope dvs kws f fd) (S : FnScope N [x] scope) (hr : Room (k + 1) callerA)
    (hbody : ∀ (cdv : Value) (s : Shared) (H : Hp) (v : V) (Q : VK) (E : XK), Room k (callerA.deeper (envOfC qual scope s.heap.objs.size f cdv)) → sp [v] H Q E →
      ∃ t, PSs (cxOf CX P w K mg base N qual scope f cdv callerA [] s H E) body t ∧ t { nx := fun _ H' => Q .non H', rt := Q } (start N [v]) H) : TopOk P w K mg base CX f fd x sp := by
  obtain ⟨_, _, _, _, _, _, _, cdv, _, _, rfl, lk, hcd, _, _⟩ := F.ex
  refine ⟨fun s H u v Q E e0 hb r hsp => ?_⟩
  have lim : s.heap.NoLimit := e0.mod.nolimit.keeps fun b o e => (e0.bs b o e).1
  have KX : K.In s.heap := e0.mod.kin.keeps fun b o e => (e0.bs b o e).1
  have hk : ∀ z ∈ [x].zip [u], scope.names.lookup z.1 = some .local ∨ (scope.names.lookup z.1 = some .cell ∧ ((cellsFrom (s.heap.objs.size + 1) scope.names []).lookup z.1).isSome = true) := fun z hz =>
    (S.par z.1 (List.of_mem_zip (a := z.1) (b := z.2) hz).1).imp id fun q => ⟨q, PySem.W.cellsFrom_some _ _ _ (.inl q)⟩
  refine codeAny_call_function hr.depth (KX _ _ lk) rfl S.co S.gen rfl (PySem.W.codeRec_of KX hcd) (hb _ _ _ _ (wpAny_newFunctionEnv_cells S.kind hk fun env he s1 z => ?_))
  subst he
  refine ⟨lim.keeps z.toInCall.keep, codeAny_func ?_⟩
  obtain ⟨t, ht, hq⟩ := hbody cdv s H v Q E (hr.deeper _) hsp
  refine wpAny_mono (ht.run [] s1 (start N [v]) H _ (inv_start S hr.hd e0 rfl (.cons r .nil) z) hq) (fun fl s' hs => ?_) fun e s' hs => hs
  cases fl with
  | brk => exact hs.elim fun _ hs => hs.elim fun _ hs => hs.2.elim
  | cont => exact hs.elim fun _ hs => hs.elim fun _ hs => hs.2.elim
  | next =>
    obtain ⟨σ', H', J, q⟩ := hs
    exact ⟨V.non, H', J.os, J.bare, J.base, J.hok, rfl, q⟩
  | ret z =>
    obtain ⟨v', σ', H', J, rv, q⟩ := hs
    exact ⟨v', H', J.os, J.bare, J.base, J.hok, rv, q⟩
/-- the law's promise at the heap behind the top, its def run from there alone -/
theorem top_call {P : Program} {w : World} {K : PySem.W.Frag} {mg mb : Str → Option Value} {CX : CXT} {fa a : Addr} {fd : FuncData} {x : Str} {sp : Sp} {s₁ : Shared} {vs : List Value} {ns : List Int}
    (KX : K.In s₁.heap) (hns : s₁.heap.Ns mainGlobals mg) (hb : s₁.heap.Ns builtinsNs mb) (hbb : ∀ x : Str, x ≠ "__name__" → mb x = bootBuiltins x) (hlim : s₁.heap.NoLimit) (hg : s₁.gens = #[])
    (ha : s₁.heap.get? a = some { cls := .type "list", data := .seq vs.toArray }) (hi : IntsAre vs ns) (hl : ns.length ≤ sizeLine)
    (F : ∀ base : Heap, K.In base → base.Ns mainGlobals mg → TopOk P w K mg base CX fa fd x sp) (hbind : ∀ (s : Shared) (u : Value), BindsTo s fd ⟨[u], []⟩ [(x, u)])
    (hsp : ∀ H : Hp, SqL K H a (ns.map V.int) → sp [.ref a] H (fun v _ => v = .bl true) fun _ _ _ => False)
    (hCX : ∀ H e s', CX [] H s₁ (fun _ _ _ => False) e s' → False) :
    codeAny (model P w) callerA (.call (.ref fa) ⟨[.ref a], []⟩) (fun r s' => r = .ok (.ret (.bool true)) ∧ OldK s₁.heap s'.heap ∧ s'.os = s₁.os ∧ AllBare s'.gens) s₁ := by
  have go : ∀ H : Hp, (∀ b u, H b = some u → b = a ∧ K.lookup a = none ∧ ∃ o xs, u = .frz o (.lst xs)) → SqL K H a (ns.map V.int) → HOk P w H s₁.heap →
      codeAny (model P w) callerA (.call (.ref fa) ⟨[.ref a], []⟩) (fun r s' => r = .ok (.ret (.bool true)) ∧ OldK s₁.heap s'.heap ∧ s'.os = s₁.os ∧ AllBare s'.gens) s₁ := by
    intro H hH hS hok
    have emp : ∀ {b : Addr}, (∀ u, H b = some u → False) → H b = none := fun {b} n => by
      cases q : H b with
      | none => rfl
      | some u => exact (n u q).elim
    have kN : K.In (hidT s₁.heap H) := fun b o e => hidT_get (KX b o e) (emp fun u q => by
      obtain ⟨rfl, z, _⟩ := hH b u q
      rw [z] at e
      cases e)
    have nN : ∀ {b : Addr} {m : Str → Option Value}, s₁.heap.Ns b m → (hidT s₁.heap H).Ns b m := fun {b m} z => by
      obtain ⟨o, es, ep, e, d, r⟩ := z
      refine ⟨o, es, ep, hidT_get e (emp fun u q => ?_), d, r⟩
      obtain ⟨rfl, _⟩ := hH b u q
      rw [ha] at e
      cases e
      exact nomatch (show Data.seq vs.toArray _ = Data.dict es ep from d)
    have mN : Mod K mg (hidT s₁.heap H) := ⟨kN, nN hns, ⟨mb, nN hb, hbb⟩, hlim.elim fun mc z => ⟨mc, nN z.1, z.2⟩⟩
    have e0 : Env0 P w K mg (hidT s₁.heap H) callerA [] s₁ H :=
      { frames := rfl, mod := mN, bs := fun b o e => of_hidT e, bsz := Nat.le_of_eq (hidT_size _ _), funs := trivial, frf := fun b z => (nomatch (show b ∈ ([] : List Addr) from z)), hok := hok, bare := .of_eq hg }
    refine codeAny_mono ((F _ kN (nN hns)).run s₁ H (.ref a) (.ref a) _ _ e0 (hbind s₁ (.ref a)) rfl (hsp H hS)) fun r s' h => ?_
    match r, h with
    | .error e, h => exact (hCX H e s' h).elim
    | .ok .next, h => exact h.elim
    | .ok .brk, h => exact h.elim
    | .ok .cont, h => exact h.elim
    | .ok (.ret u), h =>
      obtain ⟨v, H', os, bare, un, hok', r', rfl⟩ := h
      obtain rfl : u = Value.bool true := r'
      refine ⟨rfl, OldK.of_keep fun b o e => ?_, os, bare⟩
      cases q : H b with
      | none => exact un.keep b o e q (fun z => nomatch (show b ∈ ([] : List Addr) from z)) (fun z => nomatch z)
      | some u =>
        obtain ⟨_, _, ob, xs, rfl⟩ := hH b u q
        have z1 := (hok b _ q).1
        have z2 := (hok' b _ (un.frzs b ob _ q)).1
        rw [e] at z1
        cases z1
        exact z2
  have rv := vals_ints hi
  have lenV := hi.length
  by_cases hk : ∃ o, K.lookup a = some o
  · obtain ⟨o, hk⟩ := hk
    have e := KX a o hk
    rw [ha] at e
    cases e
    exact go (fun _ => none) (fun b u z => (nomatch (show (none : Option HO) = some u from z))) (.inr ⟨_, vs.toArray, _, hk, rfl, rfl, rfl, by rw [List.size_toArray, lenV]; exact hl, by simpa using rv⟩) fun b u z => nomatch (show (none : Option HO) = some u from z)
  · have hk2 : K.lookup a = none := by
      cases q : K.lookup a with
      | none => rfl
      | some o => exact (hk ⟨o, q⟩).elim
    have one : ∀ b u, (if b = a then some (HO.frz { cls := .type "list", data := .seq vs.toArray } (.lst (ns.map V.int))) else none) = some u → b = a ∧ u = HO.frz { cls := .type "list", data := .seq vs.toArray } (.lst (ns.map V.int)) := fun b u z => by
      by_cases hb : b = a
      · rw [if_pos hb] at z
        exact ⟨hb, (Option.some.inj z).symm⟩
      · rw [if_neg hb] at z
        exact nomatch z
    refine go (fun b => if b = a then some (.frz { cls := .type "list", data := .seq vs.toArray } (.lst (ns.map V.int))) else none) (fun b u z => ?_) (.inl (.inr ⟨_, if_pos rfl⟩)) fun b u z => ?_
    · obtain ⟨z1, z2⟩ := one b u z
      exact ⟨z1, hk2, _, _, z2⟩
    · obtain ⟨rfl, rfl⟩ := one b u z
      exact ⟨ha, by rw [List.length_map]; exact hl, vs, _, rv, ha⟩
/-- a law's end over a head by facts, its def run from the top alone -/
theorem walk_top {l : PySem.W.OpenLaw} {n : Nat} {q : Program} {loose : List Str} {XP : (Str → Option Value) → Heap → Prop} {YP : World → Heap → Prop} {d : DefRec} {CX : CXT} {x : Str}
    (hn : l.most = some n) (hn2 : n ≤ sizeLine) (hdf : d.params.defaults = [])
    (F : ∀ (w : World) (mg : Str → Option Value) (fa : Addr) (h : Heap), YP w h → h.Ns mainGlobals mg → mg d.name = some (.ref fa) →
      ∃ (K : PySem.W.Frag) (fd : FuncData) (sp : Sp), K.In h ∧ (∀ (s : Shared) (u : Value), BindsTo s fd ⟨[u], []⟩ [(x, u)]) ∧
        (∀ (H : Hp) (a : Addr) (ns : List Int), ns.length ≤ n → SqL K H a (ns.map V.int) → sp [.ref a] H (fun v _ => v = .bl true) fun _ _ _ => False) ∧
        ∀ base : Heap, K.In base → base.Ns mainGlobals mg → TopOk l.prog w K mg base CX fa fd x sp)
    (hCX : ∀ (H : Hp) (s : Shared) (e : Value) (s' : Shared), CX [] H s (fun _ _ _ => False) e s' → False) :
    PySem.W.WalkO q loose XP YP l.row.toRowW d [] (fun f vs => PySem.call f vs) := by
  refine Att.attach_call hn hdf fun w s₀ s₁ mg mb fa o pm cd doc a vs ns G Y ho hd hcd hmg hobj hints hlen hg => ?_
  obtain ⟨K, fd, sp, KX, hb, hsp, hF⟩ := F w mg fa _ Y G.T.g hmg
  exact top_call KX G.T.g G.T.b G.T.builtins G.T.nolimit hg hobj hints (Nat.le_trans hlen hn2) hF hb (fun H hS => hsp H a ns hlen hS) fun H e s' => hCX H s₁ e s'
end Mc
/-! lists of dates; more small rules -/
namespace Mc
open PySem PySem.Spec PyProof.Rows L2
/-- tuples stay -/
def TupK (H H' : Hp) : Prop := ∀ p xs, H p = some (.tup xs) → H' p = some (.tup xs)
section
variable {H H1 H2 : Hp} {S D p : Addr} {o : HO} {xs : List V}
theorem TupK.refl (H : Hp) : TupK H H := fun _ _ h => h
theorem TupK.trans (a : TupK H H1) (b : TupK H1 H2) : TupK H H2 := fun p xs h => b p xs (a p xs h)
theorem TupK.same (a : Same H H1) : TupK H H1 := fun p xs h => a p _ h
theorem TupK.new (h : H p = none) : TupK H (upd H p o) := TupK.same (Same.new h)
theorem TupK.upd (h : H p = some (.lst xs)) : TupK H (upd H p o) := fun q ys e => by
  rw [upd_ne (fun z => by rw [z, h] at e; cases e)]
  exact e
theorem TupK.frm2 {xs ys : List V} (hS : H S = some (.lst xs)) (hD : H D = some (.lst ys)) (f : Frm2 S D H H1) : TupK H H1 := fun q zs e =>
  f q _ (fun z => by rw [z, hS] at e; cases e) (fun z => by rw [z, hD] at e; cases e) e
theorem ne_tl {a b : Addr} {xs ys : List V} (h : H a = some (.tup xs)) (h2 : H b = some (.lst ys)) : a ≠ b := fun z => by rw [z, h2] at h; cases h
/-- a list of dates -/
inductive DL (H : Hp) : List V → List Dt → Prop
  | nil : DL H [] []
  | cons {p : Addr} {s : Dt} {rs : List V} {ss : List Dt} : H p = some (.tup (dT s)) → DL H rs ss → DL H (.ref p :: rs) (s :: ss)
theorem DL.imp {rs : List V} {ss : List Dt} (k : TupK H H1) (h : DL H rs ss) : DL H1 rs ss := by
  induction h with
  | nil => exact .nil
  | cons h _ ih => exact .cons (k _ _ h) ih
theorem DL.snoc {rs : List V} {ss : List Dt} {s : Dt} (h : DL H rs ss) (hp : H p = some (.tup (dT s))) : DL H (rs ++ [.ref p]) (ss ++ [s]) := by
  induction h with
  | nil => exact .cons hp .nil
  | cons h _ ih => exact .cons h ih
theorem DL.len {rs : List V} {ss : List Dt} (h : DL H rs ss) : rs.length = ss.length := by
  induction h with
  | nil => rfl
  | cons _ _ ih => rw [List.length_cons, List.length_cons, ih]
theorem DL.dp {K : PySem.W.Frag} {rs : List V} {ss : List Dt} (h : DL H rs ss) : DpAll K H rs (ss.map dD) := by
  induction h with
  | nil => exact .nil
  | cons h _ ih => exact .cons (dp_date h) ih
end
theorem Sm.date (s : Dt) : Sm (dD s) 1 4 := Sm.tuple (Sm.ints [_, _, _])
theorem Sm.mono {d : PyData} {n m c e : Nat} (h : Sm d n c) (l : n ≤ m) (l2 : c ≤ e) : Sm d m e := ⟨h.1, Nat.le_trans h.2.1 l, Nat.le_trans h.2.2 l2⟩
theorem SmA.mono {d : List PyData} {n m c e : Nat} (h : SmA d n c) (l : n ≤ m) (l2 : c ≤ e) : SmA d m e := ⟨h.1, Nat.le_trans h.2.1 l, Nat.le_trans h.2.2 l2⟩
theorem Sm.dates : ∀ ss : List Dt, SmA (ss.map dD) 1 (4 * ss.length)
  | [] => SmA.mono Sm.nil (by decide) (by decide)
  | s :: ss => SmA.mono (Sm.cons (Sm.date s) (Sm.dates ss)) (by decide) (by rw [List.length_cons]; omega)
theorem atI_last {xs : List V} {v : V} : atI (xs ++ [v]) (-1) = some v := by
  unfold atI
  simp only [ixN, List.length_append, List.length_singleton]
  have e : (-1 + ((xs.length + 1 : Nat) : Int)).toNat = xs.length := by omega
  simp [e]
  rw [if_pos (by omega), show (-1 + ((xs.length : Int) + 1)).toNat = xs.length by omega]
  simp
section
variable {σ : L2.St} {H : Hp} {Q : VK} {i : Int} {nx : L2.St → Hp → Prop} {rt : VK} {bk ct : L2.St → Hp → Prop}
theorem st_par3 {u v w : V} {R : V → V → V → Prop} (h : R u v w) : ∃ x y z, [u, v, w] = [x, y, z] ∧ R x y z := ⟨u, v, w, rfl, h⟩
theorem st_par3F {n m l : Nat} {ta : TA} {f : V → V → V → L2.St} (e : ∀ u v w, ((List.set σ n (some u)).set m (some v)).set l (some w) = f u v w) (h : ta σ H fun vs H1 => ∃ u v w, vs = [u, v, w] ∧ nx (f u v w) H1) :
    tPar3 n m l ta ⟨nx, rt, bk, ct⟩ σ H := by
  have e2 : (fun u v w => ((List.set σ n (some u)).set m (some v)).set l (some w)) = f := funext fun u => funext fun v => funext (e u v)
  subst e2
  exact h
/-- xs.insert(i, y) -/
def rInsert : V → List V → Hp → VK → Prop := fun x vs H Q => ∃ (l : Addr) (xs : List V) (i : Int) (y : V), x = .ref l ∧ vs = [.int i, y] ∧ H l = some (.lst xs) ∧ xs.length < sizeLine ∧ 0 ≤ i ∧ i < 2 ^ 63 ∧
    Q .non (upd H l (.lst (xs.take i.toNat ++ [y] ++ xs.drop i.toNat)))
theorem mt_insertK {X : Cx} : MtR X "list.insert" rInsert := mt_insert
theorem st_insert {p : Addr} {xs : List V} {y : V} (h : H p = some (.lst xs)) (hl : xs.length < 100000) (h0 : 0 ≤ i) (h1 : i < 2 ^ 63) (q : Q .non (upd H p (.lst (xs.take i.toNat ++ [y] ++ xs.drop i.toNat)))) : rInsert (.ref p) [.int i, y] H Q :=
  ⟨p, xs, i, y, rfl, rfl, h, len_lt hl, h0, h1, q⟩
theorem st_repr {K : PySem.W.Frag} {a : Addr} {d : PyData} {n : Nat} (h : Dp K H (.ref a) d) (ht : Tx d n) (hn : n ≤ 10000000) (hp : d.depth ≤ 60) (q : Q (.str d.shown) H) : rRepr K [.ref a] H Q := ⟨a, d, n, rfl, h, ht, hn, hp, q⟩
end
theorem nat_ab {i : Int} {b : Nat} (h0 : -((2 ^ b : Nat) : Int) < i) (h : i < (2 ^ b : Nat)) : i.natAbs < 2 ^ b := by omega
/-- the text of a date -/
theorem Tx.date {s : Dt} {b : Nat} (h0 : 0 < b) (h1 : b ≤ 1900) (h : s.1.natAbs < 2 ^ b) (hs : okS s) (h5 : 5 ≤ b) : Tx (dD s) (3 * b + 20) := by
  obtain ⟨h2, h3⟩ := hs
  have := lenN_bd s.1
  have p5 : (2 : Nat) ^ 5 ≤ 2 ^ b := Nat.pow_le_pow_right (by decide) h5
  refine Tx.mono (Tx.tuple (TxA.cons (Tx.int h0 h1 (i := s.1 / 12) (by omega)) (TxA.cons (Tx.int h0 h1 (i := s.1 % 12 + 1) (by omega)) (TxA.cons (Tx.int h0 h1 (i := s.2) (by omega)) TxA.nil)))) (by omega)
end Mc
namespace Mc
open PySem PySem.Spec PyProof.Rows L2
theorem cutV_take {xs : List V} {c : Int} (h0 : 0 ≤ c) (h1 : c ≤ xs.length) : cutV xs none (some c) = xs.take c.toNat := by
  obtain ⟨k, rfl⟩ := Int.eq_ofNat_of_zero_le h0
  unfold cutV
  rw [HT.sIx_none, HT.sIx_nat, Nat.min_eq_left (by omega), List.drop_zero]
  rfl
theorem cutV_drop {xs : List V} {c : Int} (h0 : 0 ≤ c) (h1 : c ≤ xs.length) : cutV xs (some c) none = xs.drop c.toNat := by
  obtain ⟨k, rfl⟩ := Int.eq_ofNat_of_zero_le h0
  unfold cutV
  rw [HT.sIx_none, HT.sIx_nat, Nat.min_eq_left (by omega), List.take_of_length_le (by rw [List.length_drop]; exact Nat.le_refl _)]
  rfl
section
variable {K : PySem.W.Frag} {H : Hp} {Q : VK} {p : Addr} {ns : List Int}
/-- ns[:c], ns[c:] -/
theorem st_slTo {c : Int} (h : SqL K H p (ns.map V.int)) (h0 : 0 ≤ c) (h1 : c ≤ ns.length) (q : ∀ u, H u = none → Q (.ref u) (upd H u (.lst ((ns.take c.toNat).map V.int)))) : rSlL K (.ref p) none (some c) H Q := by
  refine st_slL h ?_
  rw [cutV_take h0 (by rw [List.length_map]; exact h1), ← List.map_take]
  exact q
theorem st_slFrom {c : Int} (h : SqL K H p (ns.map V.int)) (h0 : 0 ≤ c) (h1 : c ≤ ns.length) (q : ∀ u, H u = none → Q (.ref u) (upd H u (.lst ((ns.drop c.toNat).map V.int)))) : rSlL K (.ref p) (some c) none H Q := by
  refine st_slL h ?_
  rw [cutV_drop h0 (by rw [List.length_map]; exact h1), ← List.map_drop]
  exact q
/-- ns[-1], ns[-2] -/
theorem st_ixN2 (h : SqL K H p (ns.map V.int)) (h1 : 2 ≤ ns.length) (q : ∀ k, k ∈ ns → Q (.int k) H) : rIxL K (.ref p) (.int (-2)) H Q := by
  have e : atI (ns.map V.int) (-2) = some (.int (ns[ns.length - 2])) := by
    unfold atI ixN
    rw [if_neg (by decide), if_pos (by rw [List.length_map]; omega)]
    show (ns.map V.int)[(-2 + ((ns.map V.int).length : Int)).toNat]? = _
    rw [show (-2 + ((ns.map V.int).length : Int)).toNat = ns.length - 2 by rw [List.length_map]; omega, List.getElem?_map, List.getElem?_eq_getElem (by omega)]
    rfl
  exact st_ixL h e (q _ (List.getElem_mem _))
theorem st_ixN1 (h : SqL K H p (ns.map V.int)) (h1 : 1 ≤ ns.length) (q : ∀ k, ns.getLast? = some k → Q (.int k) H) : rIxL K (.ref p) (.int (-1)) H Q := by
  have e : atI (ns.map V.int) (-1) = some (.int (ns[ns.length - 1])) := by
    unfold atI ixN
    rw [if_neg (by decide), if_pos (by rw [List.length_map]; omega)]
    show (ns.map V.int)[(-1 + ((ns.map V.int).length : Int)).toNat]? = _
    rw [show (-1 + ((ns.map V.int).length : Int)).toNat = ns.length - 1 by rw [List.length_map]; omega, List.getElem?_map, List.getElem?_eq_getElem (by omega)]
    rfl
  exact st_ixL h e (q _ (by rw [List.getLast?_eq_getElem?, List.getElem?_eq_getElem (by omega)]))
/-- ns[-1] = k -/
theorem st_setN {R : Hp → Prop} {k : Int} (h : H p = some (.lst (ns.map V.int))) (h1 : 1 ≤ ns.length) (q : R (upd H p (.lst ((ns.set (ns.length - 1) k).map V.int)))) : rSetL (.ref p) (.int (-1)) (.int k) H R := by
  refine st_setL (n := ns.length - 1) h ?_ ?_
  · unfold ixN
    rw [if_neg (by decide), if_pos (by rw [List.length_map]; omega)]
    exact congrArg some (by rw [List.length_map]; omega)
  · rw [← List.map_set]
    exact q
theorem st_catI {a b : Addr} {ns ms : List Int} (h : H a = some (.lst (ns.map V.int))) (hb : H b = some (.lst (ms.map V.int))) (hl : ns.length + ms.length < 100000) (q : ∀ c, H c = none → Q (.ref c) (upd H c (.lst ((ns ++ ms).map V.int)))) : rCat (.ref a) (.ref b) H Q := by
  refine st_cat h hb (by rw [List.length_map, List.length_map]; exact hl) ?_
  rw [← List.map_append]
  exact q
end
theorem mvL_append (s : Dt) (xs ys : List Int) : mvL s (xs ++ ys) = mvL (mvL s xs) ys := List.foldl_append ..
def upY (s : Dt) : Dt := (s.1 + 4800, s.2)
theorem mvS_up (s : Dt) (k : Int) : mvS (upY s) k = upY (mvS s k) := by
  unfold mvS upY
  show (s.1 + 4800 + k, min s.2 (lenN (s.1 + 4800 + k))) = (s.1 + k + 4800, min s.2 (lenN (s.1 + k)))
  rw [show s.1 + 4800 + k = s.1 + k + 4800 by omega, show s.1 + k + 4800 = s.1 + k + 4800 * 1 by omega, lenN_cyc]
theorem mvL_up : ∀ (ns : List Int) (s : Dt), mvL (upY s) ns = upY (mvL s ns)
  | [], s => rfl
  | n :: ns, s => by
    show mvL (mvS (upY s) n) ns = _
    rw [mvS_up, mvL_up ns]
    rfl
theorem mvS_far (s : Dt) (k : Int) : mvS s (k + 4800) = upY (mvS s k) := by
  unfold mvS upY
  show (s.1 + (k + 4800), min s.2 (lenN (s.1 + (k + 4800)))) = (s.1 + k + 4800, min s.2 (lenN (s.1 + k)))
  rw [show s.1 + (k + 4800) = s.1 + k + 4800 * 1 by omega, lenN_cyc]
  rfl
theorem mvL_far (s : Dt) (k : Int) (ns : List Int) : mvL s ((k + 4800) :: ns) = upY (mvL s (k :: ns)) := by
  show mvL (mvS s (k + 4800)) ns = upY (mvL (mvS s k) ns)
  rw [mvS_far, mvL_up]
theorem dT_up (s : Dt) : dT (upY s) = [.int (s.1 / 12 + 400), .int (s.1 % 12 + 1), .int s.2] := by
  unfold dT upY
  show [V.int ((s.1 + 4800) / 12), .int ((s.1 + 4800) % 12 + 1), .int s.2] = _
  rw [show (s.1 + 4800) / 12 = s.1 / 12 + 400 by omega, show (s.1 + 4800) % 12 = s.1 % 12 by omega]
end Mc
/-! texts of numbers, dates and steps -/
namespace Mc
open PySem PySem.Spec PyProof.Rows L2
def iT (i : Int) : Str := Str.ofString (toString i)
theorem iT_len {i : Int} (h : i.natAbs < 2 ^ 200) : (iT i).length ≤ 201 := by
  unfold iT
  rw [PySem.ofString_length]
  exact int_text_length_le (by decide) (PySem.Flt.log2_lt_of (by decide) h)
theorem iT_log {i : Int} (h : i.natAbs < 2 ^ 200) : i.natAbs.log2 < 1920 := Nat.lt_of_lt_of_le (PySem.Flt.log2_lt_of (k := 200) (by decide) h) (by decide)
/-- a step's text, a list's, a date's -/
def stT (i : Int) : Str := if 0 < i then ("+" : Str) ++ iT i else iT i
def rowT (ns : List Int) : Str := if ns.isEmpty = true then ("none" : Str) else Txt.join " " (ns.map stT)
def dtT (s : Dt) : Str := iT (s.1 / 12) ++ ("/" : Str) ++ iT (s.1 % 12 + 1) ++ ("/" : Str) ++ iT s.2
theorem stT_len {i : Int} (h : i.natAbs < 2 ^ 200) : (stT i).length ≤ 202 := by
  have e := iT_len h
  have e1 : (Str.ofString "+").length = 1 := rfl
  unfold stT
  split
  · rw [PySem.Str.length_append]
    omega
  · omega
theorem row_fits : ∀ {ns : List Int}, (∀ k ∈ ns, k.natAbs < 2 ^ 200) → ((ns.map stT).map (·.length)).sum ≤ 202 * ns.length
  | [], _ => by simp
  | n :: ns, h => by
    have a := stT_len (h n (List.mem_cons_self ..))
    have b := row_fits (ns := ns) fun k hk => h k (List.mem_cons_of_mem _ hk)
    rw [List.map_cons, List.map_cons, List.sum_cons, List.length_cons]
    omega
theorem row_ok {ns : List Int} (h : ∀ k ∈ ns, k.natAbs < 2 ^ 200) (hl : ns.length ≤ 5000) : ((ns.map stT).map (·.length)).sum + (ns.map stT).length * (Str.ofString " ").length ≤ 16777216 := by
  have a := row_fits h
  rw [List.length_map, show (Str.ofString " ").length = 1 from rfl]
  omega
section
variable {X : Cx} {σ : L2.St} {H : Hp} {Q : VK} {te to : TE} {i : Int} {K : PySem.W.Frag}
def rFmt : V → Hp → VK → Prop := fun x H1 Q => (∃ y : Str, x = .str y ∧ y.length ≤ sizeLine ∧ Q (.str y) H1) ∨ ∃ i : Int, x = .int i ∧ i.natAbs.log2 < 1920 ∧ Q (.str (toString i)) H1
theorem st_fmt (h : te σ H fun x H1 => rFmt x H1 Q) : tFmt te σ H Q := h
theorem st_fmtI (h : i.natAbs < 2 ^ 200) (q : Q (.str (iT i)) H) : rFmt (.int i) H Q := .inr ⟨i, rfl, iT_log h, q⟩
def rJs (ts : List TE) (acc : Str) (σ : L2.St) : V → Hp → (Str → Hp → Prop) → Prop := fun x H1 R => ∃ y : Str, x = .str y ∧ (acc ++ y).length ≤ sizeLine ∧ tJs ts (acc ++ y) σ H1 R
theorem st_js {t : TE} {ts : List TE} {acc : Str} {R : Str → Hp → Prop} (h : t σ H fun x H1 => rJs ts acc σ x H1 R) : tJs (t :: ts) acc σ H R := h
theorem st_jsE {acc : Str} {R : Str → Hp → Prop} (h : R acc H) : tJs [] acc σ H R := h
theorem st_jsS {ts : List TE} {acc y : Str} {R : Str → Hp → Prop} (hl : (acc ++ y).length ≤ 100000) (h : tJs ts (acc ++ y) σ H R) : rJs ts acc σ (.str y) H R := ⟨y, rfl, Nat.le_trans hl (by decide), h⟩
def tFst (ts : List TE) : TE := fun σ H Q => tJs ts Str.empty σ H fun out H1 => Q (.str out) H1
theorem pe_fst {v1 v2 : Expr} {rest : List Expr} {ts : List TE} {pos : Pos} (h : PJ X (v1 :: v2 :: rest) ts) : PE X (.JoinedStr (v1 :: v2 :: rest) pos) (tFst ts) := pe_joined h
theorem st_fst {ts : List TE} (h : tJs ts Str.empty σ H fun out H1 => Q (.str out) H1) : tFst ts σ H Q := h
/-- a + b, texts -/
def rAddS : V → V → Hp → VK → Prop := fun x y H Q => ∃ i j, x = .str i ∧ y = .str j ∧ i.length + j.length ≤ sizeLine ∧ Q (.str (i ++ j)) H
theorem op_addS : OpR X (binaryOp .Add) rAddS := op_add_str
theorem st_addS {a b : Str} (hl : a.length + b.length ≤ 100000) (q : Q (.str (a ++ b)) H) : rAddS (.str a) (.str b) H Q := ⟨a, b, rfl, rfl, Nat.le_trans hl (by decide), q⟩
/-- str(i) -/
def rStrI : List V → Hp → VK → Prop := fun xs H Q => ∃ i, xs = [.int i] ∧ i.natAbs.log2 < 1920 ∧ Q (.str (toString i)) H
theorem call_strI : CallR X (.type "str") rStrI := call_str_int
theorem st_strI (h : i.natAbs < 2 ^ 200) (q : Q (.str (iT i)) H) : rStrI [.int i] H Q := ⟨i, rfl, iT_log h, q⟩
/-- sep.join(xs) -/
def rJoin (K : PySem.W.Frag) : V → List V → Hp → VK → Prop := fun x xs H Q => ∃ a p, ∃ ys : List Str, x = .str a ∧ xs = [.ref p] ∧ (SqL K H p (ys.map V.str) ∨ SqT K H p (ys.map V.str)) ∧
  (ys.map (·.length)).sum + ys.length * a.length ≤ 16777216 ∧ Q (.str (Txt.join a ys)) H
def tJoinK (K : PySem.W.Frag) (to te : TE) : TE := tM1 (rJoin K) to te
theorem st_joinK (h : to σ H fun x H1 => (∃ a, x = .str a) ∧ te σ H1 fun y H2 => rJoin K x [y] H2 Q) : tJoinK K to te σ H Q := h
theorem st_strx {a : Str} {R : Prop} (h : R) : (∃ b, V.str a = .str b) ∧ R := ⟨⟨a, rfl⟩, h⟩
theorem st_join {a : Str} {p : Addr} {ys : List Str} (h : SqL K H p (ys.map V.str)) (hl : (ys.map (·.length)).sum + ys.length * a.length ≤ 16777216) (q : Q (.str (Txt.join a ys)) H) : rJoin K (.str a) [.ref p] H Q := ⟨a, p, ys, rfl, rfl, .inl h, hl, q⟩
theorem dp_strs : ∀ ss : List Str, DpAll K H (ss.map V.str) (ss.map PyData.str)
  | [] => .nil
  | b :: bs => .cons (.str b) (dp_strs bs)
end
/-- texts that lie: every sign is one -/
theorem so_lit (s : String) : PyData.strOk (Str.ofString s) = true := by
  unfold PyData.strOk
  rw [← Array.all_toList, signs_ofString, List.all_map]
  refine List.all_eq_true.mpr fun c _ => decide_eq_true ?_
  have h : c.toNat.isValidChar := c.valid
  rcases h with h | ⟨_, h⟩
  · exact Nat.lt_trans h (by decide)
  · exact h
theorem so_app {a b : Str} (ha : PyData.strOk a = true) (hb : PyData.strOk b = true) : PyData.strOk (a ++ b) = true := by
  unfold PyData.strOk at *
  rw [PySem.Str.cps_append, ← Array.all_toList, Array.toList_append, List.all_append, Array.all_toList, Array.all_toList, ha, hb]
  rfl
theorem so_join {y : Str} (hy : PyData.strOk y = true) : ∀ {ps : List Str}, (∀ p ∈ ps, PyData.strOk p = true) → PyData.strOk (Txt.join y ps) = true := by
  intro ps h
  rw [TL.join_eq]
  induction ps with
  | nil => exact (by decide +kernel : PyData.strOk Str.empty = true)
  | cons x r ih =>
    cases r with
    | nil => exact h x (List.mem_cons_self ..)
    | cons z r =>
      show PyData.strOk (x ++ y ++ Str.join y (z :: r)) = true
      exact so_app (so_app (h x (List.mem_cons_self ..)) hy) (ih fun p hp => h p (List.mem_cons_of_mem _ hp))
theorem so_int (i : Int) : PyData.strOk (iT i) = true := so_lit _
theorem so_st (i : Int) : PyData.strOk (stT i) = true := by
  unfold stT
  split
  · exact so_app (so_lit _) (so_int _)
  · exact so_int _
theorem so_row (ns : List Int) : PyData.strOk (rowT ns) = true := by
  unfold rowT
  split
  · exact so_lit _
  · refine so_join (so_lit _) fun p hp => ?_
    obtain ⟨k, _, rfl⟩ := List.mem_map.mp hp
    exact so_st k
theorem so_date (s : Dt) : PyData.strOk (dtT s) = true := so_app (so_app (so_app (so_app (so_int _) (so_lit _)) (so_int _)) (so_lit _)) (so_int _)
theorem Sm.str {i : Str} (h : PyData.strOk i = true) : Sm (.str i) 0 1 := ⟨by unfold PyData.canLay0; exact h, by unfold PyData.depth; omega, by unfold cntD; omega⟩
theorem Sm.strs : ∀ {bs : List Str}, (∀ b ∈ bs, PyData.strOk b = true) → SmA (bs.map PyData.str) 0 bs.length
  | [], _ => Sm.nil
  | b :: bs, h => SmA.mono (Sm.cons (Sm.str (h b (List.mem_cons_self ..))) (Sm.strs fun z hz => h z (List.mem_cons_of_mem _ hz))) (by omega) (by rw [List.length_cons]; omega)
/-- xs == [], texts -/
theorem st_eqNilS {K : PySem.W.Frag} {H : Hp} {Q : VK} {a b : Addr} {ss : List Str} (h : SqL K H a (ss.map V.str)) (hb : SqL K H b []) (ok : ∀ s ∈ ss, PyData.strOk s = true) (q : Q (.bl ss.isEmpty) H) : rEqD K (.ref a) (.ref b) H Q := by
  refine ⟨_, .list [], .lst h (dp_strs ss), .lst hb .nil, (Sm.list (Sm.strs ok)).sh (by decide), rfl, ?_⟩
  cases ss with
  | nil => exact q
  | cons n ns => exact q
theorem empty_lit (x : Str) : Str.ofString "" ++ x = x := by
  rw [show Str.ofString "" = Str.empty from by decide +kernel, PySem.Str.empty_append]
end Mc
/-! sets of ints that are made of lists; their order; sums of first steps -/
namespace Mc
open PySem PySem.Spec PyProof.Rows L2
/-- a set without members -/
def noSet (w : World) : Obj := { cls := .type "set", dict := none, data := .set #[] 0 (.fresh 0 0 (!w.params.followText "set-order")) }
theorem ints_get {its : Array Value} {ns : List Int} (h : IntsAre its.toList ns) (i : Nat) (v : Value) (hv : its[i]? = some v) : ∃ k t, ns[i]? = some k ∧ v = .int k t := by
  have hl := IntsAre.length h
  rw [Array.length_toList] at hl
  obtain ⟨hi, _⟩ := Array.getElem?_eq_some_iff.mp hv
  have hi2 : i < ns.length := by omega
  obtain ⟨t, e⟩ := IntsAre.int_at h i v (by rw [Array.getElem?_toList]; exact hv)
  refine ⟨ns[i], t, List.getElem?_eq_getElem hi2, ?_⟩
  rw [e, List.getD_eq_getElem?_getD, List.getElem?_eq_getElem hi2]
  rfl
section
variable {P : Program} {w : World} {A : Around} {E : Value → Shared → Prop} {s : Shared} {l S : Addr} {its : Array Value} {ns : List Int}
/-- set.__init__ fills S from a list -/
theorem setL_fill {R : Result → Shared → Prop} (hh : A.handled = none) (hS : s.heap.get? S = some (noSet w)) (hl : s.heap.IsList l its) (ne : l ≠ S) (hi : IntsAre its.toList ns) (hb : ns.length + 1 < scanBound)
    (q : ∀ h' tk c, SetR w h' S (fun j => decide (j ∈ ns)) c → (∀ b o, b ≠ S → s.heap.get? b = some o → h'.get? b = some o) → R (.ok (.ret .none)) { s with heap := h', toks := tk }) :
    codeAny (model P w) A (.call (.builtin "set.__init__") ⟨[.ref S, .ref l], []⟩) R s := by
  refine codeAny_call_builtin F.called_set.init.plain F.entry_set_init (check_set_init_1 ⟨_, hS, rfl⟩ ?_)
  have sz : its.size = ns.length := by
    have e := IntsAre.length hi
    rw [Array.length_toList] at e
    exact e
  have hl0 := hl
  obtain ⟨ol, h1, h2, nl, h3⟩ := hl
  obtain ⟨c0, d0, a0, s0⟩ := ol
  simp only at h2 h3
  subst h2
  subst h3
  have sub1 := F.sub_list_set
  have sub2 := F.sub_list_frozenset
  have nd : (Value.type "list" == Value.type "dict") = false := by decide
  unfold Builtin.«set.__init__» noKeywords Builtin.Frozenset.updateFrom
  generalize eP : pyIter = PI
  wp_walk
  subst eP
  refine wpAny_pyIter_list hl0 ?_
  refine wpAny_bind (wpAny_runValue ?_)
  have ltl : l < s.heap.objs.size := Heap.lt_size h1
  have ltS : S < s.heap.objs.size := Heap.lt_size hS
  have h3n : A.in1.in1.handled = none := by simp [hh]
  refine set_update_ints ((Walks.list h3n s.heap.objs.size l (Nat.ne_of_lt ltl) its).toS) S ?cm ns sz hb (ints_get hi) (its.size - 0) 0 _ (by omega) (Nat.zero_le _) ?ct ?cs ?cr
  case ct => exact ⟨⟨_, Heap.get?_push_size _ rfl, rfl, rfl⟩, hl0.push _⟩
  case cm =>
    intro z
    simp only [List.mem_cons, List.not_mem_nil, or_false] at z
    rcases z with z | z
    · exact absurd z (Nat.ne_of_lt ltS)
    · exact ne z.symm
  case cs => exact ⟨0, Nat.le_refl _, setR_new_at (Heap.get?_push_of_some _ hS)⟩
  case cr =>
    intro s' c hm _ hR
    obtain ⟨h', g2, d', tk', os'⟩ := s'
    obtain rfl : g2 = s.gens := hm.gens
    obtain rfl : d' = s.drawn := hm.drawn
    obtain rfl : os' = s.os := hm.os
    refine wpAny_pure ?_
    show wpAny _ _ (ret Value.none) _ _ _
    refine wpAny_pure (q h' tk' c hR fun b o nb e => hm.heap b o ?_ (Heap.get?_push_of_some _ e))
    simp only [List.mem_cons, List.not_mem_nil, or_false, not_or]
    exact ⟨nb, Nat.ne_of_lt (Heap.lt_size e)⟩
/-- set(l), l a list of ints -/
theorem setL_call {Q : Value → Shared → Prop} (hh : A.handled = none) (hl : s.heap.IsList l its) (hi : IntsAre its.toList ns) (hb : ns.length + 1 < scanBound)
    (q : ∀ h' tk c, SetR w h' s.heap.objs.size (fun j => decide (j ∈ ns)) c → (∀ b o, s.heap.get? b = some o → h'.get? b = some o) → Q (.ref s.heap.objs.size) { s with heap := h', toks := tk }) :
    wpAny (model P w) A (call (.type "set") [.ref l]) Q E s := by
  have own := F.called_set
  have ct := F.typeCall_set_1 (.ref l)
  obtain ⟨c1, tl, mro⟩ := own.mro
  have made := own.made
  have subs := own.sub
  have nt := own.notType
  have cc := own.canCreate
  refine wpAny_call (codeAny_of_tree ?_)
  show wpAny _ _ (callAny (.type "set") _) _ _ _
  refine wpAny_pure ⟨Code.quiet_builtin _ (by decide +kernel), codeAny_builtin F.entry_type_call ?_⟩
  rw [Around.under_plain (weight_type_call_type "set" [.ref l] []) rfl]
  repeat (any_goals (first | assumption | wp_step))
  refine codeAny_mono (code_set_led1 (.ref l) (E := E) (Q₁ := fun v s1 => v = .ref s.heap.objs.size ∧ s1 = { s with heap := s.heap.push (noSet w) }) ⟨rfl, rfl⟩) fun r s1 hr => ?_
  match r, hr with
  | .error e, hr => exact hr
  | .ok .next, hr => exact hr.elim
  | .ok .brk, hr => exact hr.elim
  | .ok .cont, hr => exact hr.elim
  | .ok (.ret v), ⟨ev, es⟩ =>
    subst ev
    subst es
    have at_ : (s.heap.push (noSet w)).get? s.heap.objs.size = some (noSet w) := Heap.get?_push_size _ rfl
    have ty : Shared.TypeIs { s with heap := s.heap.push (noSet w) } (.ref s.heap.objs.size) "set" := ⟨_, at_, rfl⟩
    have il := own.init.lookup
    have ib := own.init.bind (.ref s.heap.objs.size)
    have lt : l < s.heap.objs.size := by
      obtain ⟨o, ho, _⟩ := hl
      exact Heap.lt_size ho
    repeat (any_goals (first | assumption | wp_step))
    refine codeAny_mono (setL_fill (R := wants (fun v s2 => v = .none ∧ ∃ h' tk, s2 = { s with heap := h', toks := tk } ∧ ∃ c, SetR w h' s.heap.objs.size (fun j => decide (j ∈ ns)) c ∧ ∀ b o, s.heap.get? b = some o → h'.get? b = some o) E)
      (by simp [hh]) at_ (hl.push _) (Nat.ne_of_lt lt) hi hb fun h' tk c hR k => ⟨rfl, h', tk, rfl, c, hR, fun b o e => k b o (Nat.ne_of_lt (Heap.lt_size e)) (Heap.get?_push_of_some _ e)⟩) fun r2 s2 hr2 => ?_
    match r2, hr2 with
    | .error e, hr2 => exact hr2
    | .ok .next, hr2 => exact hr2.elim
    | .ok .brk, hr2 => exact hr2.elim
    | .ok .cont, hr2 => exact hr2.elim
    | .ok (.ret v), ⟨ev, h', tk, es, c, hR, k⟩ =>
      subst ev
      subst es
      repeat (any_goals (first | assumption | wp_step))
      exact q h' tk c hR k
end
end Mc
/-! sets of ints over the hand layer; their order; sums of first steps -/
namespace Mc
open PySem PySem.Spec PyProof.Rows L2
section
variable {X : Cx}
theorem intsAre_of : ∀ {ns : List Int} {us : List Value}, Vals (ns.map V.int) us → IntsAre us ns
  | [], _, .nil => .nil
  | n :: ns, _, .cons r t => by
    obtain ⟨k, rfl⟩ := r
    exact .cons n k (intsAre_of t)
/-- set(l) -/
def rSetI (K : PySem.W.Frag) (w : World) : List V → Hp → VK → Prop := fun xs H Q => ∃ (l : Addr) (ns : List Int), xs = [.ref l] ∧ SqL K H l (ns.map V.int) ∧ ns.length ≤ 4000 ∧
  ∀ p c, H p = none → Q (.ref p) (upd H p (SetO w p (fun j => decide (j ∈ ns)) c))
theorem cr_setI (hc : X.calm = true) : CallR X (.type "set") (rSetI X.K X.w) := by
  intro pins s σ H xs us Q I r h
  obtain ⟨l, ns, rfl, hs, hl, q⟩ := h
  obtain ⟨its, rv, pl, _⟩ := I.list hs
  rw [Vals.ref1 r]
  have e : ns.length + 1 < scanBound := by
    unfold scanBound
    omega
  refine setL_call (ns := ns) (I.ok.hd hc) pl.isList (by simpa using intsAre_of rv) e fun h' tk c hR k => ?_
  exact ⟨.ref _, upd H s.heap.objs.size (SetO X.w s.heap.objs.size (fun j => decide (j ∈ ns)) c), I.laid (t' := tk) k (Nat.le_refl _) (setO_new hR), rfl, q _ _ (I.hok.fresh (Nat.le_refl _))⟩
/-- len(s), s a set of ints -/
def rLenS (w : World) : List V → Hp → VK → Prop := fun xs H Q => ∃ (a : Addr) (S : Int → Bool) (c : Nat), xs = [.ref a] ∧ H a = some (SetO w a S c) ∧
  ∀ ks : List Int, ks.Nodup → (∀ k, S k = true ↔ k ∈ ks) → Q (.int ks.length) H
theorem cr_lenS : CallR X (.builtin "len") (rLenS X.w) := by
  intro pins s σ H xs us Q I r h
  obtain ⟨a, S, c, rfl, ha, q⟩ := h
  obtain ⟨o, es, ep, t, ho, hex, hd, g, nd, hm, hb, hf, hn, hr, hl⟩ := setO_get I ha
  rw [Vals.ref1 r]
  have e : scanBound = 4096 := rfl
  refine call_len_set ho hex hd hf (by omega) ⟨.int es.size, H, I.tok _, ⟨_, rfl⟩, ?_⟩
  have q2 := q (es.toList.map keyOf) nd hm
  rw [List.length_map, Array.length_toList] at q2
  exact q2
/-- sorted(s), s a set of ints of any size -/
def rSortS (w : World) : List V → Hp → VK → Prop := fun xs H Q => ∃ (a : Addr) (S : Int → Bool) (c : Nat), xs = [.ref a] ∧ H a = some (SetO w a S c) ∧
  ∀ (ns : List Int) (p : Addr), ns.Pairwise (· < ·) → (∀ k, k ∈ ns ↔ S k = true) → H p = none → Q (.ref p) (upd H p (.lst (ns.map V.int)))
theorem asc_of : ∀ {l : List Int}, l.Pairwise (· ≤ ·) → l.Nodup → l.Pairwise (· < ·)
  | [], _, _ => .nil
  | x :: l, h, d => by
    obtain ⟨h1, h2⟩ := List.pairwise_cons.mp h
    obtain ⟨d1, d2⟩ := List.nodup_cons.mp d
    refine List.pairwise_cons.mpr ⟨fun y hy => Int.lt_iff_le_and_ne.mpr ⟨h1 y hy, fun z => d1 (z ▸ hy)⟩, asc_of h2 d2⟩
theorem ints_keys : ∀ (l : List Value), (∀ v ∈ l, ∃ k tk, v = Value.int k tk) → IntsAre l (l.map SrtO.iv)
  | [], _ => .nil
  | v :: l, h => by
    obtain ⟨k, tk, rfl⟩ := h v (List.mem_cons_self ..)
    exact .cons k tk (ints_keys l fun u hu => h u (List.mem_cons_of_mem _ hu))
theorem cr_sortS (hc : X.calm = true) : CallR X (.builtin "sorted") (rSortS X.w) := by
  intro pins s σ H xs us Q I r h
  obtain ⟨a, S, c, rfl, ha, q⟩ := h
  obtain ⟨o, es, ep, t, ho, hex, hd, g, nd, hm, hb, hf, hn, hr, hl⟩ := setO_get I ha
  rw [Vals.ref1 r]
  have e4 : scanBound = 4096 := rfl
  refine Calls.call_function_entry kind_sorted plain_sorted entry_sorted (args_sorted1 _) ?_
  unfold Builtin.«sorted»
  refine wpAny_bind (m := checkCount "sorted" 1 1 _) (wpAny_pure (wpAny_bind (collect_set (A := X.A.in1) (I.ok.hd hc) ⟨o, ho, hex.1, hd⟩ hf hb hr hl fun s1 vs k1 z1 g1 o1 pm => ?_)))
  have vl : vs.length = es.size := by rw [pm.length_eq, List.length_map, Array.length_toList]
  have vsz : vs.length ≤ sizeLine := by rw [vl, sizeLine_eq]; omega
  have hI : IntsAre vs (vs.map SrtO.iv) := ints_keys vs fun v hv => by
    obtain ⟨e, he, rfl⟩ := List.mem_map.mp (pm.mem_iff.mp hv)
    obtain ⟨k, tk, h1, _⟩ := g e he
    exact ⟨k, tk, h1⟩
  have pk : (vs.map SrtO.iv).Perm (es.toList.map keyOf) := by
    have q := pm.map SrtO.iv
    rw [List.map_map] at q
    refine q.trans (List.Perm.of_eq (List.map_congr_left fun e he => ?_))
    obtain ⟨k, tk, h1, _⟩ := g e he
    show SrtO.iv e.2 = keyOf e
    unfold keyOf
    rw [h1]
    rfl
  refine wpAny_bind (wpAny_newList ?_ vsz)
  have at_ : (s1.heap.push (seqObj "list" vs.toArray 0)).get? s1.heap.objs.size = some (seqObj "list" vs.toArray 0) := Heap.get?_push_size _ rfl
  refine wpAny_bind (wpAny_holding (wpAny_call_entry slot_list_sort ⟨_, at_, rfl⟩ entry_list_sort
    (SrtO.list_sort_ord SrtO.swo_int at_ vsz (fun h2 => SrtO.ints_sortable hI h2) fun out a1 a2 => ⟨.none, rfl, ?_⟩) (args_list_sort _)))
  obtain ⟨b1, b2, b3⟩ := SrtO.ints_out hI a1 a2
  obtain ⟨n, hat⟩ := sortedHeap_at (vs := vs) (out := out.toArray) at_
  have pn : (out.map SrtO.iv).Perm (es.toList.map keyOf) := b2.trans pk
  have k2 : ∀ b u, s.heap.get? b = some u → (sortedHeap (s1.heap.push (seqObj "list" vs.toArray 0)) s1.heap.objs.size vs out.toArray).get? b = some u := fun b u e => by
    have e1 := k1 b u e
    have lt := Heap.lt_size e1
    rw [sortedHeap_old (Nat.ne_of_lt lt) (by rw [size_push']; exact Nat.lt_succ_of_lt lt)]
    exact Heap.get?_push_of_some _ e1
  have hnp : H s1.heap.objs.size = none := I.hok.fresh z1
  have len : ((out.map SrtO.iv).map V.int).length ≤ sizeLine := by
    rw [List.length_map, pn.length_eq, List.length_map, Array.length_toList, sizeLine_eq]
    omega
  obtain ⟨hp1, gg1, dd1, tt1, os1⟩ := s1
  obtain ⟨hp0, gg0, dd0, tt0, os0⟩ := s
  simp only at g1 o1
  subst g1
  subst o1
  have J := I.call (H' := upd H hp1.objs.size (.lst ((out.map SrtO.iv).map V.int))) (h' := sortedHeap (hp1.push (seqObj "list" vs.toArray 0)) hp1.objs.size vs out.toArray) (g' := gg1) (t' := tt1) (d' := dd1) (ch := [])
    (Un.laid k2 z1 hnp) (I.hok.laid k2 z1 (show ObjOk _ _ _ _ _ (.lst _) from ⟨len, out, n, vals_of_ints b1, hat⟩)) I.bare (fun _ z => nomatch z)
  exact wpAny_pure ⟨_, rfl, .ref _, _, J, rfl, q _ _ (asc_of b3 (pn.nodup_iff.mpr nd)) (fun k => by rw [pn.mem_iff, hm k]) hnp⟩
end
section
variable {H : Hp} {Q : VK} {K : PySem.W.Frag} {w : World}
theorem st_setI {l : Addr} {ns : List Int} (h : SqL K H l (ns.map V.int)) (hl : ns.length ≤ 4000) (q : ∀ p c, H p = none → Q (.ref p) (upd H p (SetO w p (fun j => decide (j ∈ ns)) c))) : rSetI K w [.ref l] H Q := ⟨l, ns, rfl, h, hl, q⟩
end
/-! ### ascending lists without duplicates -/
def insU (x : Int) : List Int → List Int
  | [] => [x]
  | y :: l => if x < y then x :: y :: l else if x = y then y :: l else y :: insU x l
def srt : List Int → List Int
  | [] => []
  | x :: l => insU x (srt l)
theorem mem_insU {x k : Int} : ∀ {l : List Int}, k ∈ insU x l ↔ k = x ∨ k ∈ l
  | [] => by simp [insU]
  | y :: l => by
    have ih := @mem_insU x k l
    unfold insU
    split
    · simp
    · split
      · rename_i h
        subst h
        simp
      · rw [List.mem_cons, ih, List.mem_cons]
        constructor
        · rintro (h | h | h)
          · exact .inr (.inl h)
          · exact .inl h
          · exact .inr (.inr h)
        · rintro (h | h | h)
          · exact .inr (.inl h)
          · exact .inl h
          · exact .inr (.inr h)
theorem mem_srt {k : Int} : ∀ {l : List Int}, k ∈ srt l ↔ k ∈ l
  | [] => by simp [srt]
  | y :: l => by
    have ih := @mem_srt k l
    rw [srt, mem_insU, ih, List.mem_cons]
theorem pw_insU {x : Int} : ∀ {l : List Int}, l.Pairwise (· < ·) → (insU x l).Pairwise (· < ·)
  | [], _ => by simp [insU]
  | y :: l, h => by
    obtain ⟨h1, h2⟩ := List.pairwise_cons.mp h
    unfold insU
    split
    · rename_i c
      refine List.pairwise_cons.mpr ⟨fun z hz => ?_, h⟩
      rcases List.mem_cons.mp hz with e | e
      · omega
      · have := h1 z e
        omega
    · split
      · exact h
      · refine List.pairwise_cons.mpr ⟨fun z hz => ?_, pw_insU h2⟩
        rcases mem_insU.mp hz with e | e
        · omega
        · exact h1 z e
theorem pw_srt : ∀ l : List Int, (srt l).Pairwise (· < ·)
  | [] => List.Pairwise.nil
  | x :: l => pw_insU (pw_srt l)
/-- an ascending list without duplicates is told by its members -/
theorem asc_eq : ∀ {l m : List Int}, l.Pairwise (· < ·) → m.Pairwise (· < ·) → (∀ k, k ∈ l ↔ k ∈ m) → l = m
  | [], [], _, _, _ => rfl
  | [], y :: m, _, _, h => absurd ((h y).mpr (List.mem_cons_self ..)) (by simp)
  | x :: l, [], _, _, h => absurd ((h x).mp (List.mem_cons_self ..)) (by simp)
  | x :: l, y :: m, h1, h2, h => by
    obtain ⟨a1, a2⟩ := List.pairwise_cons.mp h1
    obtain ⟨b1, b2⟩ := List.pairwise_cons.mp h2
    have e : x = y := by
      have p := (h x).mp (List.mem_cons_self ..)
      have q := (h y).mpr (List.mem_cons_self ..)
      rcases List.mem_cons.mp p with p | p
      · exact p
      · rcases List.mem_cons.mp q with q | q
        · exact q.symm
        · have := a1 y q
          have := b1 x p
          omega
    subst e
    rw [asc_eq a2 b2 fun k => ?_]
    constructor
    · intro hk
      rcases List.mem_cons.mp ((h k).mp (List.mem_cons_of_mem _ hk)) with e | e
      · have := a1 k hk
        omega
      · exact e
    · intro hk
      rcases List.mem_cons.mp ((h k).mpr (List.mem_cons_of_mem _ hk)) with e | e
      · have := b1 k hk
        omega
      · exact e
theorem srt_of {l ns : List Int} (h : l.Pairwise (· < ·)) (e : ∀ k, k ∈ l ↔ k ∈ ns) : l = srt ns := asc_eq h (pw_srt ns) fun k => (e k).trans mem_srt.symm
theorem srt_ext {l m : List Int} (h : ∀ k, k ∈ l ↔ k ∈ m) : srt l = srt m := srt_of (pw_srt l) fun k => mem_srt.trans (h k)
theorem insU_len (x : Int) : ∀ l : List Int, (insU x l).length ≤ l.length + 1
  | [] => by simp [insU]
  | y :: l => by
    have := insU_len x l
    unfold insU
    split
    · simp
    · split
      · simp
      · simp; omega
theorem srt_len : ∀ l : List Int, (srt l).length ≤ l.length
  | [] => by simp [srt]
  | x :: l => by
    have := srt_len l
    have := insU_len x (srt l)
    rw [srt, List.length_cons]
    omega
/-! ### sums of first steps -/
def smF (k : Int) : List Int → List Int
  | [] => [k]
  | n :: ns => k :: smF (k + n) ns
/-- 0 and the sums of the first steps -/
def sms (ns : List Int) : List Int := smF 0 ns
theorem smF_snoc (n : Int) : ∀ (ns : List Int) (k : Int), smF k (ns ++ [n]) = smF k ns ++ [k + ns.sum + n]
  | [], k => by simp [smF]
  | m :: ns, k => by
    rw [List.cons_append, smF, smF_snoc n ns, smF, List.sum_cons, List.cons_append, show k + m + ns.sum + n = k + (m + ns.sum) + n by omega]
theorem sms_snoc (ns : List Int) (n : Int) : sms (ns ++ [n]) = sms ns ++ [ns.sum + n] := by
  unfold sms
  rw [smF_snoc]
  simp
theorem smF_len : ∀ (ns : List Int) (k : Int), (smF k ns).length = ns.length + 1
  | [], k => rfl
  | n :: ns, k => by
    rw [smF, List.length_cons, smF_len ns, List.length_cons]
theorem sms_len (ns : List Int) : (sms ns).length = ns.length + 1 := smF_len ns 0
theorem smF_last : ∀ (ns : List Int) (k : Int), (smF k ns).getLast? = some (k + ns.sum)
  | [], k => by simp [smF]
  | n :: ns, k => by
    have h := smF_last ns (k + n)
    have h2 : smF (k + n) ns ≠ [] := fun z => by rw [z] at h; cases h
    rw [smF, List.getLast?_cons, h, List.sum_cons]
    show some (k + n + ns.sum) = _
    rw [show k + n + ns.sum = k + (n + ns.sum) by omega]
theorem sms_last (ns : List Int) : (sms ns).getLast? = some ns.sum := by
  have h := smF_last ns 0
  rw [Int.zero_add] at h
  exact h
theorem smF_head : ∀ (ns : List Int) (k : Int), k ∈ smF k ns
  | [], k => by simp [smF]
  | n :: ns, k => by simp [smF]
theorem sms_zero (ns : List Int) : 0 ∈ sms ns := smF_head ns 0
/-- the least of a day and the lengths of months -/
def dayL (n d : Int) (vs : List Int) : Int := (vs.map fun k => lenN (n + k)).foldl min d
theorem foldl_min_ext {l m : List Int} {a : Int} (h : ∀ k, k ∈ l ↔ k ∈ m) : l.foldl min a = m.foldl min a := by
  refine min_eq ?_ ?_
  · rcases List.mem_cons.mp (foldl_min_mem l a) with e | e
    · rw [e]
      exact List.mem_cons_self ..
    · exact List.mem_cons_of_mem _ ((h _).mp e)
  · intro y hy
    obtain ⟨q1, q2⟩ := foldl_min_le l a
    rcases List.mem_cons.mp hy with e | e
    · rw [e]
      exact q1
    · exact q2 y ((h y).mpr e)
theorem dayL_ext {n d : Int} {l m : List Int} (h : ∀ k, k ∈ l ↔ k ∈ m) : dayL n d l = dayL n d m := by
  refine foldl_min_ext fun k => ?_
  simp only [List.mem_map]
  exact ⟨fun ⟨a, b, c⟩ => ⟨a, (h a).mp b, c⟩, fun ⟨a, b, c⟩ => ⟨a, (h a).mpr b, c⟩⟩
theorem mvF_eq (n : Int) : ∀ (ns : List Int) (k d : Int), d ≤ lenN (n + k) → ns.foldl mvS (n + k, d) = (n + (k + ns.sum), dayL n d (smF k ns))
  | [], k, d, h => by
    have e : min d (lenN (n + k)) = d := by omega
    simp [dayL, smF, e]
  | x :: ns, k, d, h => by
    have ih := mvF_eq n ns (k + x) (min d (lenN (n + (k + x)))) (by omega)
    rw [List.foldl_cons, show mvS (n + k, d) x = (n + (k + x), min d (lenN (n + (k + x)))) by
      unfold mvS
      show (n + k + x, min d (lenN (n + k + x))) = _
      rw [show n + k + x = n + (k + x) by omega], ih, List.sum_cons]
    refine Prod.ext ?_ ?_
    · show n + (k + x + ns.sum) = n + (k + (x + ns.sum))
      omega
    · show dayL n (min d (lenN (n + (k + x)))) (smF (k + x) ns) = dayL n d (smF k (x :: ns))
      have hm : lenN (n + (k + x)) ∈ (smF (k + x) ns).map fun j => lenN (n + j) := List.mem_map.mpr ⟨_, smF_head ns (k + x), rfl⟩
      unfold dayL
      rw [smF, List.map_cons, List.foldl_cons, show min d (lenN (n + k)) = d by omega]
      generalize (smF (k + x) ns).map (fun j => lenN (n + j)) = ls at hm
      generalize lenN (n + (k + x)) = b at hm
      refine min_eq ?_ ?_
      · have q := foldl_min_mem ls (min d b)
        rcases List.mem_cons.mp q with e | e
        · by_cases c : d ≤ b
          · rw [e, Int.min_eq_left c]
            exact List.mem_cons_self ..
          · rw [e, Int.min_eq_right (by omega)]
            exact List.mem_cons_of_mem _ hm
        · exact List.mem_cons_of_mem _ e
      · intro y hy
        obtain ⟨q1, q2⟩ := foldl_min_le ls (min d b)
        rcases List.mem_cons.mp hy with e | e
        · omega
        · exact q2 y e
theorem mvL_eq {s : Dt} (h : okS s) (ns : List Int) : mvL s ns = (s.1 + ns.sum, dayL s.1 s.2 (sms ns)) := by
  have q := mvF_eq s.1 ns 0 s.2 (by rw [Int.add_zero]; exact h.2)
  rw [Int.add_zero, Int.zero_add] at q
  exact q
theorem smF_cons (a k : Int) (ns : List Int) : smF a (k :: ns) = a :: smF (a + k) ns := rfl
/-- the differences of a list's neighbours -/
def dif (a : Int) : List Int → List Int
  | [] => []
  | b :: l => (b - a) :: dif b l
theorem smF_dif : ∀ (l : List Int) (a : Int), smF a (dif a l) = a :: l
  | [], a => rfl
  | b :: l, a => by
    rw [dif, smF, show a + (b - a) = b by omega, smF_dif l b]
theorem dif_len : ∀ (l : List Int) (a : Int), (dif a l).length = l.length
  | [], a => rfl
  | b :: l, a => by rw [dif, List.length_cons, dif_len l b, List.length_cons]
section
variable {H : Hp} {Q : VK} {w : World}
theorem st_sortS {a : Addr} {ns : List Int} {c : Nat} (h : H a = some (SetO w a (fun j => decide (j ∈ ns)) c)) (q : ∀ p, H p = none → Q (.ref p) (upd H p (.lst ((srt ns).map V.int)))) : rSortS w [.ref a] H Q :=
  ⟨a, _, c, rfl, h, fun ms p h1 h2 hp => by
    rw [srt_of h1 fun k => (h2 k).trans decide_eq_true_iff]
    exact q p hp⟩
theorem st_lenS {a : Addr} {ns : List Int} {c : Nat} (h : H a = some (SetO w a (fun j => decide (j ∈ ns)) c)) (q : Q (.int (srt ns).length) H) : rLenS w [.ref a] H Q :=
  ⟨a, _, c, rfl, h, fun ks h1 h2 => by
    have e : ks.Perm (srt ns) := (List.perm_ext_iff_of_nodup h1 ((pw_srt ns).imp fun h => Int.ne_of_lt h)).mpr fun k => (h2 k).symm.trans (decide_eq_true_iff.trans mem_srt.symm)
    rw [e.length_eq]
    exact q⟩
end
theorem sum_take {ns : List Int} {i : Nat} {k : Int} (h : ns[i]? = some k) : (ns.take (i + 1)).sum = (ns.take i).sum + k := by
  rw [List.take_add_one, h]
  simp
theorem sms_take {ns : List Int} {i : Nat} {k : Int} (h : ns[i]? = some k) : sms (ns.take (i + 1)) = sms (ns.take i) ++ [(ns.take i).sum + k] := by
  rw [List.take_add_one, h]
  exact sms_snoc _ _
theorem cutV_to {xs : List V} {c : Int} (h0 : 0 ≤ c) : cutV xs none (some c) = xs.take c.toNat := by
  obtain ⟨k, rfl⟩ := Int.eq_ofNat_of_zero_le h0
  unfold cutV
  rw [HT.sIx_none, HT.sIx_nat, List.drop_zero]
  show xs.take (min k xs.length) = xs.take k
  by_cases h : k ≤ xs.length
  · rw [Nat.min_eq_left h]
  · rw [Nat.min_eq_right (by omega), List.take_of_length_le (Nat.le_refl _), List.take_of_length_le (by omega)]
/-- list(xs) -/
def rListQ (K : PySem.W.Frag) : List V → Hp → VK → Prop := fun xs H Q => ∃ p ys, xs = [.ref p] ∧ (SqL K H p ys ∨ SqT K H p ys) ∧ ∀ l, H l = none → Q (.ref l) (upd H l (.lst ys))
theorem call_listQ {X : Cx} : CallR X (.type "list") (rListQ X.K) := call_list_of
theorem dif_get : ∀ {l : List Int} {a : Int} {i : Nat} {x y : Int}, (a :: l)[i]? = some x → l[i]? = some y → (dif a l)[i]? = some (y - x)
  | [], _, _, _, _, _, h => by cases h
  | b :: l, a, 0, x, y, h1, h2 => by
    cases h1
    cases h2
    rfl
  | b :: l, a, i + 1, x, y, h1, h2 => by
    show (dif b l)[i]? = _
    exact dif_get h1 h2
section
variable {H : Hp} {Q : VK} {K : PySem.W.Frag} {p : Addr} {ns : List Int}
theorem st_listQ {xs : List V} (h : SqL K H p xs) (q : ∀ l, H l = none → Q (.ref l) (upd H l (.lst xs))) : rListQ K [.ref p] H Q := ⟨p, xs, rfl, .inl h, q⟩
theorem st_slUp {c : Int} (h : SqL K H p (ns.map V.int)) (h0 : 0 ≤ c) (q : ∀ u, H u = none → Q (.ref u) (upd H u (.lst ((ns.take c.toNat).map V.int)))) : rSlL K (.ref p) none (some c) H Q := by
  refine st_slL h ?_
  rw [cutV_to h0, ← List.map_take]
  exact q
theorem map_erase : ∀ (l : List Int) (j : Nat), (l.map V.int).eraseIdx j = (l.eraseIdx j).map V.int
  | [], _ => rfl
  | _ :: _, 0 => rfl
  | a :: l, j + 1 => by
    show V.int a :: (l.map V.int).eraseIdx j = V.int a :: (l.eraseIdx j).map V.int
    rw [map_erase l j]
/-- xs.pop(r) -/
theorem st_popI {r : Int} (h : H p = some (.lst (ns.map V.int))) (h0 : 0 ≤ r) (h1 : r < ns.length) (hl : ns.length ≤ 100000) (q : ∀ k, ns[r.toNat]? = some k → Q (.int k) (upd H p (.lst ((ns.eraseIdx r.toNat).map V.int)))) : rPopAt (.ref p) [.int r] H Q := by
  have lt : r.toNat < ns.length := by omega
  refine ⟨p, _, r, r.toNat, .int ns[r.toNat], rfl, rfl, h, by omega, by omega, ?_, ?_, ?_⟩
  · rw [List.length_map]
    exact seqIndex_of h0 h1
  · rw [List.getElem?_map, List.getElem?_eq_getElem lt]
    rfl
  · rw [map_erase]
    exact q _ (List.getElem?_eq_getElem lt)
theorem st_zip {ta : TA} {σ : L2.St} {R : It → Hp → Prop} (h : ta σ H fun vs H1 => ∃ a b xs ys, vs = [.ref a, .ref b] ∧ SqL K H1 a xs ∧ SqL K H1 b ys ∧ R (Itz K a b) H1) : iZip K ta σ H R := h
theorem st_zip2 {a b : Addr} {xs ys : List V} {R : It → Prop} (hx : SqL K H a xs) (hy : SqL K H b ys) (q : R (Itz K a b)) : ∃ a' b' xs ys, [V.ref a, .ref b] = [.ref a', .ref b'] ∧ SqL K H a' xs ∧ SqL K H b' ys ∧ R (Itz K a' b') := ⟨a, b, xs, ys, rfl, hx, hy, q⟩
/-- a list of zip(a, b), a the longer one -/
theorem lcZ {a b D : Addr} {xs ys : List V} {g : TG} {tt : TT} {te : TE} {vs : List Nat} {σ : L2.St} {Qd : Hp → Prop} (hlen : ys.length ≤ xs.length) (Pv : Nat → Hp → Prop) (h0 : Pv 0 (upd H D (.lst [])))
    (hq : ∀ i H, Pv i H → SqL K H a xs ∧ SqL K H b ys)
    (hs : ∀ (i : Nat) (x y : V) (T : Addr) (H : Hp), xs[i]? = some x → ys[i]? = some y → Pv i H → H T = none → g (.ref T) (wipe σ vs) (upd H T (.tup [x, y])) fun σ2 H2 => wipe σ2 vs = wipe σ vs ∧ tt σ2 H2 fun c H3 =>
      if c = true then te σ2 H3 fun z H4 => ∃ acc, H4 D = some (.lst acc) ∧ acc.length < sizeLine ∧ Pv (i + 1) (upd H4 D (.lst (acc ++ [z]))) else Pv (i + 1) H3) (hd : ∀ H, Pv ys.length H → Qd H) :
    ∃ W : Nat → Nat → Hp → Prop, (∃ m, W 0 m (upd H D (.lst []))) ∧ ∀ i m H, W i m H →
      ((Itz K a b).stop i H ∧ Qd H) ∨ ((Itz K a b).go i H ∧ ∃ Nx : Hp → Prop, (∀ H', Nx H' → ∃ m', m' < m ∧ W (i + 1) m' H') ∧ ∀ x H', (Itz K a b).yld i H x H' → g x (wipe σ vs) H' fun σ2 H2 => wipe σ2 vs = wipe σ vs ∧ tt σ2 H2 fun c H3 =>
        if c = true then te σ2 H3 fun z H4 => ∃ acc, H4 D = some (.lst acc) ∧ acc.length < sizeLine ∧ Nx (upd H4 D (.lst (acc ++ [z]))) else Nx H3) := by
  refine ⟨fun i m H => m = ys.length - i ∧ i ≤ ys.length ∧ Pv i H, ⟨_, rfl, Nat.zero_le _, h0⟩, ?_⟩
  rintro i m H1 ⟨rfl, hi, p⟩
  obtain ⟨sx, sy⟩ := hq i H1 p
  by_cases c : i < ys.length
  · have gx := List.getElem?_eq_getElem (show i < xs.length by omega)
    have gy := List.getElem?_eq_getElem c
    refine .inr ⟨⟨xs, ys, _, _, sx, sy, gx, gy⟩, Pv (i + 1), fun H' p' => ⟨_, Nat.sub_succ_lt_self _ _ c, rfl, c, p'⟩, ?_⟩
    rintro v H' ⟨T, x', y', rfl, hT, rfl, fx, fy⟩
    exact hs i x' y' T H1 (fx xs sx) (fy ys sy) p hT
  · obtain rfl : i = ys.length := by omega
    exact .inl ⟨⟨xs, ys, sx, sy, .inr (Nat.le_refl _)⟩, hd H1 p⟩
end
end Mc
/-! a bag of draws: a dict with four text keys -/
namespace Mc
open PySem PySem.Spec PyProof.Rows L2
def kGreat : Key := .inr "great"
def kLeft : Key := .inr "left"
def kTurn : Key := .inr "turn"
def kFold : Key := .inr "fold"
def bagL (g : Addr) (l t f : Int) : List (Key × V) := [(kGreat, .ref g), (kLeft, .int l), (kTurn, .int t), (kFold, .int f)]
theorem key_ne {x y : Str} (h : decide (x = y) = false) : ¬ (Sum.inr x : Key) = .inr y := fun z => of_decide_eq_false h (Sum.inr.inj z)
theorem n12 : ¬ kGreat = kLeft := key_ne (by decide +kernel)
theorem n13 : ¬ kGreat = kTurn := key_ne (by decide +kernel)
theorem n14 : ¬ kGreat = kFold := key_ne (by decide +kernel)
theorem n23 : ¬ kLeft = kTurn := key_ne (by decide +kernel)
theorem n24 : ¬ kLeft = kFold := key_ne (by decide +kernel)
theorem n34 : ¬ kTurn = kFold := key_ne (by decide +kernel)
section
variable {g : Addr} {l t f z : Int}
theorem bag_g : valV (bagL g l t f) kGreat = some (.ref g) := valV_pos rfl
theorem bag_l : valV (bagL g l t f) kLeft = some (.int l) := (valV_neg n12).trans (valV_pos rfl)
theorem bag_t : valV (bagL g l t f) kTurn = some (.int t) := (valV_neg n13).trans ((valV_neg n23).trans (valV_pos rfl))
theorem bag_f : valV (bagL g l t f) kFold = some (.int f) := (valV_neg n14).trans ((valV_neg n24).trans ((valV_neg n34).trans (valV_pos rfl)))
theorem bag_pl : putK (bagL g l t f) kLeft (.int z) = bagL g z t f := by
  simp [putK, bagL, n12, n23, n24, Ne.symm n23, Ne.symm n24]
theorem bag_pt : putK (bagL g l t f) kTurn (.int z) = bagL g l z f := by
  simp [putK, bagL, n13, n23, n34, Ne.symm n34]
theorem bag_new : mergeK [] [(kGreat, .ref g), (kLeft, .int l), (kTurn, .int t), (kFold, .int f)] = bagL g l t f := by
  simp [mergeK, putK, bagL, n12, n13, n14, n23, n24, n34]
end
section
variable {σ : L2.St} {H : Hp} {Q : VK} {v : V} {td ty tv : TE} {nx : L2.St → Hp → Prop} {rt : VK} {bk ct : L2.St → Hp → Prop} {B g : Addr} {l t f z : Int} {R : V → Prop}
theorem st_disp {trs : List (TE × TE)} (h : ∀ p, H p = none → tPairs trs σ (upd H p (.dK [])) fun ps H2 => H2 p = some (.dK []) ∧ ∃ kvs : List (Key × V), ps = kvs.map (fun kv => (kV kv.1, kv.2)) ∧ kvs.length ≤ 15 ∧ Q (.ref p) (upd H2 p (.dK (mergeK [] kvs)))) : tDisp trs σ H Q := h
theorem st_pr {r : List (TE × TE)} {R : List (V × V) → Hp → Prop} (h : td σ H fun x H1 => ty σ H1 fun y H2 => tPairs r σ H2 fun ps H3 => R ((x, y) :: ps) H3) : tPairs ((td, ty) :: r) σ H R := h
theorem st_prE {R : List (V × V) → Hp → Prop} (h : R [] H) : tPairs [] σ H R := h
theorem st_dget (h : td σ H fun x H1 => ty σ H1 fun y H2 => ∃ a v, x = .ref a ∧ DGet H2 a y (some v) ∧ Q v H2) : tDGet td ty σ H Q := h
theorem st_bgG (h : H B = some (.dK (bagL g l t f))) (q : R (.ref g)) : ∃ a v, V.ref B = .ref a ∧ DGet H a (.str "great") (some v) ∧ R v := ⟨B, _, rfl, .inl ⟨_, kGreat, .inl h, rfl, bag_g.symm⟩, q⟩
theorem st_bgL (h : H B = some (.dK (bagL g l t f))) (q : R (.int l)) : ∃ a v, V.ref B = .ref a ∧ DGet H a (.str "left") (some v) ∧ R v := ⟨B, _, rfl, .inl ⟨_, kLeft, .inl h, rfl, bag_l.symm⟩, q⟩
theorem st_bgT (h : H B = some (.dK (bagL g l t f))) (q : R (.int t)) : ∃ a v, V.ref B = .ref a ∧ DGet H a (.str "turn") (some v) ∧ R v := ⟨B, _, rfl, .inl ⟨_, kTurn, .inl h, rfl, bag_t.symm⟩, q⟩
theorem st_bgF (h : H B = some (.dK (bagL g l t f))) (q : R (.int f)) : ∃ a v, V.ref B = .ref a ∧ DGet H a (.str "fold") (some v) ∧ R v := ⟨B, _, rfl, .inl ⟨_, kFold, .inl h, rfl, bag_f.symm⟩, q⟩
theorem st_dput (h : tv σ H fun v H1 => td σ H1 fun x H2 => ty σ H2 fun y H3 => ∃ a H4, x = .ref a ∧ DPut H3 a y v H4 ∧ nx σ H4) : sDPut td ty tv ⟨nx, rt, bk, ct⟩ σ H := h
theorem st_bpL {R : Hp → Prop} (h : H B = some (.dK (bagL g l t f))) (q : R (upd H B (.dK (bagL g z t f)))) : ∃ a H4, V.ref B = .ref a ∧ DPut H a (.str "left") (.int z) H4 ∧ R H4 :=
  ⟨B, _, rfl, .inl ⟨_, kLeft, h, rfl, (by decide : 4 < sizeLine), rfl⟩, by rw [bag_pl]; exact q⟩
theorem st_daug {rd : V → V → Hp → VK → Prop} (h : td σ H fun x H1 => ty σ H1 fun y H2 => ∃ a v, x = .ref a ∧ DGet H2 a y (some v) ∧ tv σ H2 fun y2 H3 => rd v y2 H3 fun z H4 => ∃ H5, DPut H4 a y z H5 ∧ nx σ H5) : sDAug td ty tv rd ⟨nx, rt, bk, ct⟩ σ H := h
/-- bag['turn'] += 1 -/
theorem st_bagT {R : Hp → Prop} (h : H B = some (.dK (bagL g l t f))) (q : R (upd H B (.dK (bagL g l (t + 1) f)))) :
    ∃ a v, V.ref B = .ref a ∧ DGet H a (.str "turn") (some v) ∧ tC (.int 1) σ H fun y2 H3 => rI0 (fun i j => .int (i + j)) v y2 H3 fun z H4 => ∃ H5, DPut H4 a (.str "turn") z H5 ∧ R H5 :=
  ⟨B, _, rfl, .inl ⟨_, kTurn, .inl h, rfl, bag_t.symm⟩, _, _, rfl, rfl, _, .inl ⟨_, kTurn, h, rfl, (by decide : 4 < sizeLine), rfl⟩, by rw [bag_pt]; exact q⟩
end
/-- [f(k) for k in ns if p(k)] -/
theorem lcFM {K : PySem.W.Frag} {a C : Addr} {ns : List Int} {g : TG} {tt : TT} {te : TE} {vs : List Nat} {σ : L2.St} {H : Hp} {Qd : Hp → Prop} (p : Int → Bool) (f : Int → Int) (hs : SqL K H a (ns.map V.int)) (n : H C = none) (hl : ns.length ≤ 100000)
    (step : ∀ (k : Int) (H' : Hp) (R : VK) (RF : Hp → Prop), k ∈ ns → Same H H' → (p k = true → ∀ H4, Same H' H4 → R (.int (f k)) H4) → (p k = false → ∀ H4, Same H' H4 → RF H4) →
      g (.int k) (wipe σ vs) H' fun σ2 H2 => wipe σ2 vs = wipe σ vs ∧ tt σ2 H2 fun b H3 => if b = true then te σ2 H3 R else RF H3)
    (q : ∀ H', Same H H' → H' C = some (.lst (((ns.filter p).map f).map V.int)) → Qd H') :
    ∃ W : Nat → Nat → Hp → Prop, (∃ m, W 0 m (upd H C (.lst []))) ∧ ∀ i m H, W i m H →
      ((Itl K a).stop i H ∧ Qd H) ∨ ((Itl K a).go i H ∧ ∃ Nx : Hp → Prop, (∀ H', Nx H' → ∃ m', m' < m ∧ W (i + 1) m' H') ∧ ∀ x H', (Itl K a).yld i H x H' → g x (wipe σ vs) H' fun σ2 H2 => wipe σ2 vs = wipe σ vs ∧ tt σ2 H2 fun b H3 =>
        if b = true then te σ2 H3 fun y H4 => ∃ acc, H4 C = some (.lst acc) ∧ acc.length < sizeLine ∧ Nx (upd H4 C (.lst (acc ++ [y]))) else Nx H3) := by
  refine lc_list (xs := ns.map V.int) (fun i H' => Same H H' ∧ H' C = some (.lst ((((ns.take i).filter p).map f).map V.int))) ⟨Same.new n, upd_same⟩ (fun i H' _ e => e.1.seq hs) (fun i x H' hx e => ?_) (fun H' e => ?_)
  · obtain ⟨sm, hC⟩ := e
    obtain ⟨k, gk, rfl⟩ := int_at hx
    refine step k H' _ _ (List.mem_of_getElem? gk) sm (fun hp H4 s4 => ?_) (fun hp H4 s4 => ?_)
    · refine ⟨_, s4 _ _ hC, len_lt ?_, same_trU n (same_tr s4 sm), ?_⟩
      · have l1 := List.length_filter_le p (ns.take i)
        rw [List.length_map, List.length_map]
        rw [List.length_take] at l1
        have l2 : i < ns.length := (List.getElem?_eq_some_iff.mp gk).1
        omega
      · rw [upd_same, List.take_add_one, gk, List.filter_append]
        simp [hp]
    · refine ⟨same_tr s4 sm, ?_⟩
      rw [s4 _ _ hC, List.take_add_one, gk, List.filter_append]
      simp [hp]
  · obtain ⟨sm, hC⟩ := e
    rw [List.length_map, List.take_length] at hC
    exact q H' sm hC
theorem filter_true (ns : List Int) : ns.filter (fun _ => true) = ns := by simp
/-- [f(k) for k in (.., ..) if p(k)] -/
theorem lcFT {K : PySem.W.Frag} {a C : Addr} {ns : List Int} {g : TG} {tt : TT} {te : TE} {vs : List Nat} {σ : L2.St} {H : Hp} {Qd : Hp → Prop} (p : Int → Bool) (f : Int → Int) (hs : SqT K H a (ns.map V.int)) (n : H C = none) (hl : ns.length ≤ 100000)
    (step : ∀ (k : Int) (H' : Hp) (R : VK) (RF : Hp → Prop), k ∈ ns → Same H H' → (p k = true → ∀ H4, Same H' H4 → R (.int (f k)) H4) → (p k = false → ∀ H4, Same H' H4 → RF H4) →
      g (.int k) (wipe σ vs) H' fun σ2 H2 => wipe σ2 vs = wipe σ vs ∧ tt σ2 H2 fun b H3 => if b = true then te σ2 H3 R else RF H3)
    (q : ∀ H', Same H H' → H' C = some (.lst (((ns.filter p).map f).map V.int)) → Qd H') :
    ∃ W : Nat → Nat → Hp → Prop, (∃ m, W 0 m (upd H C (.lst []))) ∧ ∀ i m H, W i m H →
      ((Itt K a).stop i H ∧ Qd H) ∨ ((Itt K a).go i H ∧ ∃ Nx : Hp → Prop, (∀ H', Nx H' → ∃ m', m' < m ∧ W (i + 1) m' H') ∧ ∀ x H', (Itt K a).yld i H x H' → g x (wipe σ vs) H' fun σ2 H2 => wipe σ2 vs = wipe σ vs ∧ tt σ2 H2 fun b H3 =>
        if b = true then te σ2 H3 fun y H4 => ∃ acc, H4 C = some (.lst acc) ∧ acc.length < sizeLine ∧ Nx (upd H4 C (.lst (acc ++ [y]))) else Nx H3) := by
  refine lc_tup (xs := ns.map V.int) (fun i H' => Same H H' ∧ H' C = some (.lst ((((ns.take i).filter p).map f).map V.int))) ⟨Same.new n, upd_same⟩ (fun i H' _ e => Same.tup e.1 hs) (fun i x H' hx e => ?_) (fun H' e => ?_)
  · obtain ⟨sm, hC⟩ := e
    obtain ⟨k, gk, rfl⟩ := int_at hx
    refine step k H' _ _ (List.mem_of_getElem? gk) sm (fun hp H4 s4 => ?_) (fun hp H4 s4 => ?_)
    · refine ⟨_, s4 _ _ hC, len_lt ?_, same_trU n (same_tr s4 sm), ?_⟩
      · have l1 := List.length_filter_le p (ns.take i)
        rw [List.length_map, List.length_map]
        rw [List.length_take] at l1
        have l2 : i < ns.length := (List.getElem?_eq_some_iff.mp gk).1
        omega
      · rw [upd_same, List.take_add_one, gk, List.filter_append]
        simp [hp]
    · refine ⟨same_tr s4 sm, ?_⟩
      rw [s4 _ _ hC, List.take_add_one, gk, List.filter_append]
      simp [hp]
  · obtain ⟨sm, hC⟩ := e
    rw [List.length_map, List.take_length] at hC
    exact q H' sm hC
/-- repr(i) -/
def rReprI : List V → Hp → VK → Prop := fun xs H Q => ∃ i, xs = [.int i] ∧ i.natAbs.log2 < 1920 ∧ Q (.str (toString i)) H
theorem call_reprI {X : Cx} : CallR X (.builtin "repr") rReprI := SkE.call_repr_int
theorem st_reprI {H : Hp} {Q : VK} {i : Int} {b : Nat} (h : i.natAbs < 2 ^ b) (h0 : 0 < b) (hb : b ≤ 1900) (q : Q (.str (toString i)) H) : rReprI [.int i] H Q :=
  ⟨i, rfl, Nat.lt_of_lt_of_le (PySem.Flt.log2_lt_of h0 h) (by omega), q⟩
end Mc
/-! exceptions of own classes with a field, over a base class of the program's own -/
namespace Mc
open PySem PySem.Spec PyProof.Rows L2
/-- the j-th statement of a class's body -/
def clsS (s : Stmt) (j : Nat) : Stmt := match s with
  | .ClassDef (body := b) .. => b.getD j (.Pass ⟨0, 0, 0, 0⟩)
  | s => s
/-- the class's record is one of an exception over ValueError -/
def oexB (K : PySem.W.Frag) (C : Addr) : Bool := match K.lookup C with
  | some ⟨.type "type", _, .cls cd, sl⟩ => (match cd.mro, sl.toList with
    | .ref D :: bm, [_, _, _, _, some (.builtin n), _] => decide (D = C) && (decide (n = "ValueError.__new__") && (cd.hasDict && (!cd.hasDel && PySem.HandSPX.refsVE bm)))
    | _, _ => false)
  | _ => false
/-- all that is asked of such a class -/
def excKB (K : PySem.W.Frag) (C : Addr) : Bool :=
  oexB K C && (decide (PySem.W.findIn K (.ref C) "__setattr__" = some (some (.builtin "object.__setattr__"))) && (decide (PySem.W.subIn K (.ref C) (.type "BaseException") = some true) && (decide (PySem.W.typeIn K (.ref C) = some (.type "type")) &&
  (PySem.W.keepIn K (.ref C) && (decide (PySem.W.findIn K (.ref C) "__init__" = some (some (.ref (He.ma K C "__init__")))) && (decide (PySem.W.typeIn K (.ref (He.ma K C "__init__")) = some (.type "function")) &&
  (decide (PySem.W.findIn K (.ref C) "value" = some none) && (xfB K C && (decide (PySem.W.findIn K (.ref C) "__class__" = some (some (.builtin "object.__class__"))) &&
  (decide (PySem.W.specialIn K (.builtin "object.__class__") "__get__" = some (some (.builtin "getset_descriptor.__get__"))) && (decide (PySem.W.takesIn K (.builtin "object.__class__") = some true) && decide (PySem.W.mroIn K C (.type "object") = some true))))))))))))
structure ExcK (K : PySem.W.Frag) (C : Addr) : Prop where
  oex : OexC K C
  iC : PySem.W.findIn K (.ref C) "__init__" = some (some (.ref (He.ma K C "__init__")))
  tI : PySem.W.typeIn K (.ref (He.ma K C "__init__")) = some (.type "function")
  noV : PySem.W.findIn K (.ref C) "value" = some none
  xf : XfC K C
  ha : PySem.W.findIn K (.ref C) "__class__" = some (some (.builtin "object.__class__"))
  hn : PySem.W.specialIn K (.builtin "object.__class__") "__get__" = some (some (.builtin "getset_descriptor.__get__"))
  ht : PySem.W.takesIn K (.builtin "object.__class__") = some true
  hm : PySem.W.mroIn K C (.type "object") = some true
theorem oexB_ok {K : PySem.W.Frag} {C : Addr} (q : oexB K C = true) : ∃ nm q N bs bm sn sub ab col dd k0 k1 k2 k3 k5, K.lookup C = some (excClassObj nm q C N bs bm true sn sub ab col dd k0 k1 k2 k3 k5 "ValueError.__new__") ∧ PySem.HandSPX.refsVE bm = true := by
  unfold oexB at q
  split at q
  · rename_i dd cd sl e
    split at q
    · rename_i D bm k0 k1 k2 k3 n k5 em el
      obtain ⟨q1, q⟩ := He.ba q
      obtain ⟨q2, q⟩ := He.ba q
      obtain ⟨q3, q⟩ := He.ba q
      obtain ⟨q4, q5⟩ := He.ba q
      obtain ⟨nm, bs, mro, ns, qn, hd, sn, sub, ab, col, del⟩ := cd
      simp only at em q3 q4
      obtain rfl : D = C := of_decide_eq_true q1
      obtain rfl : n = "ValueError.__new__" := of_decide_eq_true q2
      subst em
      subst q3
      obtain rfl : del = false := by simpa using q4
      obtain rfl : sl = #[k0, k1, k2, k3, some (.builtin "ValueError.__new__"), k5] := by
        obtain ⟨l⟩ := sl
        exact congrArg Array.mk el
      exact ⟨nm, qn, ns, bs, bm, sn, sub, ab, col, dd, k0, k1, k2, k3, k5, e, q5⟩
    · cases q
  · cases q
theorem excKB_ok {K : PySem.W.Frag} {C : Addr} (q : excKB K C = true) : ExcK K C := by
  obtain ⟨a1, q⟩ := He.ba q
  obtain ⟨a2, q⟩ := He.ba q
  obtain ⟨a3, q⟩ := He.ba q
  obtain ⟨a4, q⟩ := He.ba q
  obtain ⟨a5, q⟩ := He.ba q
  obtain ⟨a6, q⟩ := He.ba q
  obtain ⟨a7, q⟩ := He.ba q
  obtain ⟨a8, q⟩ := He.ba q
  obtain ⟨a9, q⟩ := He.ba q
  obtain ⟨b1, q⟩ := He.ba q
  obtain ⟨b2, q⟩ := He.ba q
  obtain ⟨b3, b4⟩ := He.ba q
  exact ⟨⟨oexB_ok a1, of_decide_eq_true a2, of_decide_eq_true a3, of_decide_eq_true a4, a5⟩, of_decide_eq_true a6, of_decide_eq_true a7, of_decide_eq_true a8, xfB_ok a9, of_decide_eq_true b1, of_decide_eq_true b2, of_decide_eq_true b3, of_decide_eq_true b4⟩
/-- the base class: its __init__ is ValueError's -/
def baseB (K : PySem.W.Frag) (D : Addr) : Bool := PySem.W.readsIn K D (.type "type") && (decide (PySem.W.specialIn K (.ref D) "__getattribute__" = some (some (.builtin "type.__getattribute__"))) &&
  (match PySem.W.findCls K (.ref D) (.type "type") "__init__" with
    | some (.val (.builtin n)) => decide (n = "ValueError.__init__")
    | _ => false))
structure BaseK (K : PySem.W.Frag) (D : Addr) : Prop where
  rd : PySem.W.readsIn K D (.type "type") = true
  ga : PySem.W.specialIn K (.ref D) "__getattribute__" = some (some (.builtin "type.__getattribute__"))
  at_ : PySem.W.findCls K (.ref D) (.type "type") "__init__" = some (.val (.builtin "ValueError.__init__"))
theorem baseB_ok {K : PySem.W.Frag} {D : Addr} (q : baseB K D = true) : BaseK K D := by
  obtain ⟨a1, q⟩ := He.ba q
  obtain ⟨a2, q⟩ := He.ba q
  refine ⟨a1, of_decide_eq_true a2, ?_⟩
  split at q
  · rename_i n e
    rw [e, show n = "ValueError.__init__" from of_decide_eq_true q]
  · cases q
section
variable {X : Cx} {D : Addr} {e : Expr} {es : List Expr} {ta : TA} {p1 p2 pos : Pos} {x : Str}
/-- Base.__init__(self, ..) -/
theorem pe_binit {pl : Sem Bool} (hg : Gl X x) (hm : X.mg x = some (.ref D)) (hb : BaseK X.K D) (ha : PA X (e :: es) ta)
    (hc : eval (.Call (.Attribute (.Name x p1) "__init__" p2) (e :: es) [] pos) X.env = (do
      let ov ← eval (.Name x p1) X.env
      standAt p2.atName
      let (f, first) ← holding [ov] (getMethod ov "__init__" pl)
      callWith pos f first (backTo pos (starEach (e :: es) X.env)) (backToKw pos (keywordEach [] X.env))) := by rfl)
    (hdb : (x == ("__debug__" : Str)) = false := by decide)
    (he : starEach (e :: es) X.env = (false, eval e X.env) :: starEach es X.env := by rfl) (hpl : (backTo pos (starEach es X.env)).any (·.1) = false := by rfl) :
    PE X (.Call (.Attribute (.Name x p1) "__init__" p2) (e :: es) [] pos) (tVeI X.K ta) := by
  refine ⟨fun pins s σ H Q I h => ?_⟩
  refine PySem.W.methodCall_KW (ld_glob I hg hm ?_ hdb) hc
  refine PySem.W.method_cls I.kIn hb.ga (PySem.W.cls_value I.kIn hb.rd hb.at_ (by decide +kernel) ?_)
  show wpAny _ _ (callWith pos (Value.builtin "ValueError.__init__") [] (backTo pos (starEach (e :: es) X.env)) []) _ _ _
  refine PyProof.Rows.callWith_method1 (thn (ha.run pos pins _ σ H _ (I.tok _) h) fun us s1 ⟨vs, H1, I1, r1, q⟩ => ?_) he hpl
  obtain ⟨a, C, ws, rfl, hl, T, ea, q⟩ := q
  match us, r1 with
  | u :: ur, .cons ra rw' =>
    obtain rfl : u = Value.ref a := ra
    refine oinit_ok T I1 ea ?_ fun s' J => ⟨.non, H1, J, rfl, q⟩
    rw [← Paired.length rw', sizeLine_eq]
    omega
end
/-! ### an exception that is held (in a suite: pinned) -/
section
variable {X : Cx} {a : Addr} {cls : Value} {d : Option Addr} {oe : Obj}
/-- isinstance(e, c) -/
def rIsX (K : PySem.W.Frag) (a : Addr) (cls : Value) (d : Option Addr) : List V → Hp → VK → Prop := fun xs H Q => ∃ (C dx : Addr) (fs : List (Str × V)) (c : V) (cv : Value) (b : Bool), xs = [.ref a, c] ∧ cls = .ref C ∧ d = some dx ∧ ExcK K C ∧ H dx = some (.xd fs) ∧
  (∀ u, RelV c u → u = cv) ∧ PySem.W.kitOne K (.ref C) cv = some b ∧ Q (.bl b) H
/-- isinstance(e, (c, ..)) -/
def rIsXT (K : PySem.W.Frag) (a : Addr) (cls : Value) (d : Option Addr) : List V → Hp → VK → Prop := fun xs H Q => ∃ (C dx tp : Addr) (fs : List (Str × V)) (ds : List Addr) (b : Bool), xs = [.ref a, .ref tp] ∧ cls = .ref C ∧ d = some dx ∧ ExcK K C ∧ H dx = some (.xd fs) ∧
  SqT K H tp (ds.map V.ref) ∧ PySem.W.kitAny K (.ref C) (ds.map Value.ref) = some b ∧ Q (.bl b) H
theorem refs_vals : ∀ {ds : List Addr} {us : List Value}, Vals (ds.map V.ref) us → us = ds.map Value.ref
  | [], _, .nil => rfl
  | _ :: ds, _, .cons r t => by
    obtain rfl := r
    rw [refs_vals (ds := ds) t]
    rfl
theorem excK_kit {K : PySem.W.Frag} {C : Addr} {od : Option Obj} (T : ExcK K C) : PySem.W.KitX K (.ref a) (.ref C) (fun h => PySem.W.InstAt h a oe C od) := by
  obtain ⟨nm, q, N, bs, bm, sn, sub, ab, col, dd, k0, k1, k2, k3, k5, hC, _⟩ := T.oex.cls
  refine PySem.W.kitx_exc ?_ T.xf.ga T.xf.gg T.xf.exC T.ha T.hn T.ht T.hm
  unfold PySem.W.clsIn
  rw [hC]
  rfl
theorem excK_at {s : Shared} {pins : List (Addr × Obj)} {σ : L2.St} {H : Hp} {C dx : Addr} {fs : List (Str × V)} (I : Inv X pins σ H s) (hp : (a, oe) ∈ X.pn) (hz : Zc (.ref C) (some dx) oe) (hf : ∃ vs, oe.data = .fields vs) (hx : H dx = some (.xd fs)) :
    ∃ od, PySem.W.InstAt s.heap a oe C (some od) := by
  obtain ⟨ha, _⟩ := I.pin (a, oe) (List.mem_append_left _ hp)
  have ho : ObjOk X.prog X.w H s.heap dx (.xd fs) := I.hok dx _ hx
  obtain ⟨mA, hns, _⟩ := ho
  obtain ⟨od, hd, _⟩ := lookIn_ns hns
  obtain ⟨vs, hv⟩ := hf
  refine ⟨od, ha, hz.1, ?_, ?_⟩
  · unfold PySem.W.notCls
    rw [hv]
  · rw [hz.2]
    exact hd
theorem call_isX (hp : (a, oe) ∈ X.pn) (hz : Zc cls d oe) (hf : ∃ vs, oe.data = .fields vs) : CallR X (.builtin "isinstance") (rIsX X.K a cls d) := by
  intro pins s σ H xs us Q I r h
  obtain ⟨C, dx, fs, c, cv, b, rfl, rfl, rfl, T, hx, hcv, e, q⟩ := h
  match us, r with
  | [u, v], .cons rx (.cons rt .nil) =>
    obtain rfl : u = Value.ref a := rx
    obtain rfl := hcv _ rt
    obtain ⟨od, J⟩ := excK_at I hp hz hf hx
    exact PySem.W.kia_one (excK_kit T) I.kIn J e (fun z => nomatch z) fun tk => ⟨.bl b, H, I.kept (t' := tk) fun _ _ z => z, rfl, q⟩
theorem call_isXT (hp : (a, oe) ∈ X.pn) (hz : Zc cls d oe) (hf : ∃ vs, oe.data = .fields vs) : CallR X (.builtin "isinstance") (rIsXT X.K a cls d) := by
  intro pins s σ H xs us Q I r h
  obtain ⟨C, dx, tp, fs, ds, b, rfl, rfl, rfl, T, hx, ht, e, q⟩ := h
  match us, r with
  | [u, v], .cons rx (.cons rt .nil) =>
    obtain rfl : u = Value.ref a := rx
    obtain rfl : v = Value.ref tp := rt
    obtain ⟨od, J⟩ := excK_at I hp hz hf hx
    obtain ⟨its, rv, ⟨o, ho, hc, n, hd⟩, _⟩ := I.tuple ht
    have ei := refs_vals rv
    subst ei
    obtain ⟨oc, od2, oda, osl⟩ := o
    simp only at hc hd
    subst hc
    subst hd
    exact PySem.W.kia_tup (excK_kit T) I.kIn J ho e (fun z => nomatch z) fun tk => ⟨.bl b, H, I.kept (t' := tk) fun _ _ z => z, rfl, q⟩
/-- e.value -/
def tXv (K : PySem.W.Frag) (a : Addr) (cls : Value) (d : Option Addr) (te : TE) : TE := fun σ H Q => te σ H fun x H1 => x = .ref a ∧ ∃ (C dx : Addr) (v : V), cls = .ref C ∧ d = some dx ∧ ExcK K C ∧ H1 dx = some (.xd [(("value" : Str), v)]) ∧ Q v H1
theorem pe_xv {e : Expr} {te : TE} {pos : Pos} (hp : (a, oe) ∈ X.pn) (hz : Zc cls d oe) (hf : ∃ vs, oe.data = .fields vs) (he : PE X e te) (hb : attributeBase e "value" X.env (eval e X.env) = eval e X.env := by rfl) :
    PE X (.Attribute e "value" pos) (tXv X.K a cls d te) := by
  refine ⟨fun pins s σ H Q I h => ?_⟩
  refine attr_of hb (thn (he.run pins s σ H _ I h) fun u s1 hh => ?_)
  obtain ⟨x, H1, I1, rx, rfl, C, dx, v, rfl, rfl, T, hx, q⟩ := hh
  obtain rfl : u = Value.ref a := rx
  have ho : ObjOk X.prog X.w H1 s1.heap dx (.xd [(("value" : Str), v)]) := I1.hok dx _ hx
  obtain ⟨mA, hns, hr⟩ := ho
  obtain ⟨od, hd, hl⟩ := lookIn_ns hns
  have l : List.lookup ("value" : Str) [(("value" : Str), v)] = some v := by simp [List.lookup]
  obtain ⟨w, hw, rw'⟩ := RelO.some_of (v := v) (o := mA "value") (by rw [← l]; exact hr "value")
  obtain ⟨ha, _⟩ := I1.pin (a, oe) (List.mem_append_left _ hp)
  obtain ⟨vs, hv⟩ := hf
  have J : PySem.W.InstAt s1.heap a oe C (some od) := by
    refine ⟨ha, hz.1, ?_, ?_⟩
    · unfold PySem.W.notCls
      rw [hv]
    · rw [hz.2]
      exact hd
  exact HandSPX.exc_get I1.kIn J T.xf.ga T.xf.gg T.xf.exC (PySem.W.findObj_own T.xf.hdC T.noV rfl (by rw [hl, hw])) (handed_of rw') ⟨v, H1, I1.tok _, rw', q⟩
end
/-! ### their making -/
def sp_einit (K : PySem.W.Frag) (C : Addr) : Sp := fun vs H Q _ => ∃ (a : Addr) (v : V), vs = [.ref a, v] ∧ ExcK K C ∧ H a = some (exo a C none) ∧ ∀ dx, H dx = none → dx ≠ a → Q .non (upd (upd H dx (exd dx [(("value" : Str), v)])) a (exo a C (some dx)))
section
variable {σ : L2.St} {H : Hp} {Q : VK} {K : PySem.W.Frag} {te to : TE} {ta : TA} {nx : L2.St → Hp → Prop} {rt : VK} {bk ct : L2.St → Hp → Prop}
theorem st_veI (h : ta σ H fun vs H1 => ∃ (a C : Addr) (ws : List V), vs = .ref a :: ws ∧ ws.length ≤ 1000 ∧ OexC K C ∧ H1 a = some (exo a C none) ∧ Q .non H1) : tVeI K ta σ H Q := h
theorem st_mko {C : Addr} {sp : Sp} {dvs : List V} {R : XK} (h : ta σ H fun vs H1 => vs.length ≤ 1000 ∧ ∀ a, H1 a = none → sp (.ref a :: (vs ++ dvs)) (upd H1 a (exo a C none))
    (fun v H2 => v = .non ∧ ∃ (d : Addr) (fs : List (Str × V)), H2 a = some (exo a C (some d)) ∧ H2 d = some (exd d fs) ∧ H1 d = none ∧ R (.ref C) (some d) (upd (del H2 a) d (.xd fs))) (fun _ _ _ => False)) : tMkO C sp dvs ta σ H R := h
theorem st_mkE {C : Addr} {R : XK} {x : V} (T : ExcK K C) (q : ∀ dx, H dx = none → R (.ref C) (some dx) (upd H dx (.xd [(("value" : Str), x)]))) :
    [x].length ≤ 1000 ∧ ∀ a, H a = none → sp_einit K C (.ref a :: ([x] ++ [])) (upd H a (exo a C none))
      (fun v H2 => v = .non ∧ ∃ (d : Addr) (fs : List (Str × V)), H2 a = some (exo a C (some d)) ∧ H2 d = some (exd d fs) ∧ H d = none ∧ R (.ref C) (some d) (upd (del H2 a) d (.xd fs))) (fun _ _ _ => False) := by
  refine ⟨(by decide : 1 ≤ 1000), fun a na => ⟨a, x, rfl, T, upd_same, fun dx nd ne => ⟨rfl, dx, [(("value" : Str), x)], upd_same, ?_, ?_, ?_⟩⟩⟩
  · rw [upd_ne ne, upd_same]
  · rw [upd_ne ne] at nd
    exact nd
  · have nd2 : H dx = none := by
      rw [upd_ne ne] at nd
      exact nd
    have e : upd (del (upd (upd (upd H a (exo a C none)) dx (exd dx [(("value" : Str), x)])) a (exo a C (some dx))) a) dx (.xd [(("value" : Str), x)]) = upd H dx (.xd [(("value" : Str), x)]) := by
      funext b
      by_cases hb : b = dx
      · rw [hb, upd_same, upd_same]
      · rw [upd_ne hb, upd_ne hb]
        by_cases ha : b = a
        · rw [ha, del_same, na]
        · rw [del_ne ha, upd_ne ha, upd_ne hb, upd_ne ha]
    rw [e]
    exact q dx nd2
theorem st_ost {f : Str} (h : te σ H fun y H1 => to σ H1 fun x H2 => ∃ a C : Addr, x = .ref a ∧ OexC K C ∧ PySem.W.findIn K (.ref C) f = some none ∧
    ((H2 a = some (exo a C none) ∧ ∀ dx, H2 dx = none → dx ≠ a → nx σ (upd (upd H2 dx (exd dx [(f, y)])) a (exo a C (some dx)))) ∨
      ∃ (dx : Addr) (fs : List (Str × V)), H2 a = some (exo a C (some dx)) ∧ H2 dx = some (exd dx fs) ∧ fs.length ≤ 900 ∧ nx σ (upd H2 dx (exd dx ((f, y) :: fs))))) : tOst K f to te ⟨nx, rt, bk, ct⟩ σ H := h
theorem st_raise {t : L2.St → Hp → XK → Prop} {W : WX} {D : Ends} (h : t σ H fun cls d H' => W cls d σ H') : (fun (_ : Ends) σ H => t σ H fun cls d H' => W cls d σ H') D σ H := h
theorem st_xv {a : Addr} {cls : Value} {d : Option Addr} (h : te σ H fun x H1 => x = .ref a ∧ ∃ (C dx : Addr) (v : V), cls = .ref C ∧ d = some dx ∧ ExcK K C ∧ H1 dx = some (.xd [(("value" : Str), v)]) ∧ Q v H1) : tXv K a cls d te σ H Q := h
theorem st_isX {C a dx : Addr} {fs : List (Str × V)} {c : V} {cv : Value} {b : Bool} (T : ExcK K C) (hx : H dx = some (.xd fs)) (hc : ∀ u, RelV c u → u = cv) (e : PySem.W.kitOne K (.ref C) cv = some b) (q : Q (.bl b) H) : rIsX K a (.ref C) (some dx) [.ref a, c] H Q :=
  ⟨C, dx, fs, c, cv, b, rfl, rfl, rfl, T, hx, hc, e, q⟩
theorem rel_ref {D : Addr} : ∀ u, RelV (.ref D) u → u = Value.ref D := fun _ r => r
theorem rel_ty {n : String} : ∀ u, RelV (.ty n) u → u = Value.type n := fun _ r => r
end
section
variable {σ : L2.St} {H : Hp} {Q : VK} {ta tb : TE}
theorem st_lrg {te : L2.St → Hp → (Int → Int → Hp → Prop) → Prop} (h : te σ H fun a b H1 => RgOk a b ∧ ∀ q, H1 q = none → Q (.ref q) (upd H1 q (.lst (rgV a b)))) : tLstRg te σ H Q := h
theorem st_rg2 {R : Int → Int → Hp → Prop} (h : ta σ H fun x H1 => tb σ H1 fun y H2 => ∃ i j, x = .int i ∧ y = .int j ∧ R i j H2) : tRg2 ta tb σ H R := h
theorem st_rgE {i j : Int} {R : Int → Int → Prop} (h : R i j) : ∃ a b, V.int i = .int a ∧ V.int j = .int b ∧ R a b := ⟨i, j, rfl, rfl, h⟩
end
section
variable {σ : L2.St} {H : Hp} {Q : VK}
theorem st_callS {sp : Sp} {E : L2.St → XK} {t : TA} (h : t σ H fun vs H1 => sp vs H1 Q (E σ)) : tCallS sp E t σ H Q := h
theorem st_extend {p b : Addr} {xs ys : List V} (h : H p = some (.lst xs)) (hb : H b = some (.lst ys)) (hl : xs.length + ys.length < 100000) (q : Q .non (upd H p (.lst (xs ++ ys)))) : rExtend (.ref p) [.ref b] H Q :=
  ⟨p, b, xs, ys, rfl, rfl, h, hb, Nat.le_trans (Nat.le_of_lt hl) (by decide), q⟩
end
/-! ### the head's facts, with the table of statics (class reads look there) -/
def fragB (n : Nat) (g : Addr → Option Obj) : PySem.W.Frag := He.frG g (He.asD g n ++ [cStatics])
abbrev AlB : Type := He.AlD × Bool
def obsB (n : Nat) (fa : List He.Fa) (fn : List He.DefD) (ex : PySem.W.Frag → Bool) (g : Addr → Option Obj) : AlB := (He.obsD fa fn (fragB n g), ex (fragB n g))
structure SaysB (fa : List He.Fa) (fn : List He.DefD) (ex : PySem.W.Frag → Bool) (K : PySem.W.Frag) : Prop where
  d : He.SaysD fa fn K
  more : ex K = true
def hookB (n : Nat) (fa : List He.Fa) (fn : List He.DefD) (ex : PySem.W.Frag → Bool) : PySem.W.Hook where
  α := AlB
  obs := fun s => obsB n fa fn ex s.heap.get?
  val := fun _ => (He.valD fn, true)
  says := fun _ h => ∃ K : PySem.W.Frag, K.In h ∧ SaysB fa fn ex K
  of := fun _ _ e => ⟨_, He.frG_in, congrArg (fun z : AlB => z.1) e, congrArg (fun z : AlB => z.2) e⟩
  keeps := fun _ _ _ h k => h.elim fun K z => ⟨K, PySem.W.Frag.In.keeps z.1 k, z.2⟩
theorem obsB_eq {n : Nat} {fa : List He.Fa} {fn : List He.DefD} {ex : PySem.W.Frag → Bool} {g : Addr → Option Obj} {s : Shared} (h : ∀ a, g a = s.heap.get? a) : obsB n fa fn ex g = (hookB n fa fn ex).obs s := by
  obtain rfl : g = s.heap.get? := funext h
  rfl
end Mc
/-! numbers, lists of steps and dates read from texts -/
namespace Mc
open PySem PySem.Spec PyProof.Rows L2
/-! ### numbers in words -/
def isDig (c : Nat) : Bool := decide (48 ≤ c ∧ c ≤ 57)
def sgF : List Nat → Bool
  | [] => false
  | c :: _ => decide (c = 43) || decide (c = 45)
def cutSg (l : List Nat) : List Nat := if sgF l = true then l.drop 1 else l
def okD (ds : List Nat) : Bool := decide (1 ≤ ds.length) && (decide (ds.length ≤ 60) && ds.all isDig)
def valT (l : List Nat) : Int := if l.head? = some 45 then -((NumText.digitsVal (cutSg l) : Nat) : Int) else ((NumText.digitsVal (cutSg l) : Nat) : Int)
def numT (w : Str) : Option Int := if okD (cutSg w.cps.toList) = true then some (valT w.cps.toList) else none
def numV (o : Option Int) : V := match o with
  | some n => .int n
  | none => .non
theorem okD_all {ds : List Nat} (h : okD ds = true) : NumText.AllDigits ds ∧ ds ≠ [] ∧ ds.length ≤ 60 := by
  obtain ⟨h1, h⟩ := He.ba h
  obtain ⟨h2, h3⟩ := He.ba h
  refine ⟨fun c hc => ?_, fun z => ?_, of_decide_eq_true h2⟩
  · exact of_decide_eq_true (List.all_eq_true.mp h3 c hc)
  · rw [z] at h1
    cases h1
open NumText in
theorem intText_plus {x : Str} {cs : List Nat} (hx : x.cps.toList = 43 :: cs) (h : AllDigits cs) (h1 : cs ≠ []) (h2 : cs.length ≤ 4000) : intText? x = some ((digitsVal cs : Nat) : Int) := by
  have sm : ∀ c ∈ x.cps.toList, 43 ≤ c ∧ c ≤ 57 := fun c hc => by
    rw [hx] at hc
    rcases List.mem_cons.mp hc with e | hc
    · omega
    · have := h c hc
      omega
  have t1 : numTextOf x = x.cps.toList := if_pos (by
    rw [← Array.all_toList, List.all_eq_true]
    exact fun c hc => decide_eq_true (by have := sm c hc; omega))
  have t2 : numSeenOf x = x.cps.toList := by
    show (numTextOf x).takeWhile _ = _
    rw [t1]
    exact takeWhile_all fun c hc => bne_iff_ne.mpr (by have := sm c hc; omega)
  have c0 : core (43 :: cs) = cs := by
    unfold core
    rw [dropWhile_of (by decide)]
    show (cs.reverse.dropWhile blank).reverse = cs
    rw [dropWhile_digits h.reverse, List.reverse_reverse]
  have s0 : sign ((43 :: cs).dropWhile blank) = (false, cs) := by
    rw [dropWhile_of (by decide)]
    rfl
  have z := push_size cs #[]
  have v := push_foldl cs #[]
  unfold intText?
  rw [t1, t2, if_pos (beq_self_eq_true _), hx, c0, s0, digits_of h h1]
  show (if _ ≤ 4300 then some (worth false _) else none) = _
  rw [if_pos (by rw [z]; simp only [Array.size_empty]; omega)]
  unfold worth digitsVal
  rw [v]
  rfl
theorem int_numT {w : Str} (h : okD (cutSg w.cps.toList) = true) : intText? w = some (valT w.cps.toList) := by
  obtain ⟨h1, h2, h3⟩ := okD_all h
  have wl : w.cps.toList.length = w.length := Array.length_toList
  generalize hl : w.cps.toList = l at *
  match l, hl with
  | [], hl => exact absurd rfl h2
  | c :: cs, hl =>
    by_cases e1 : c = 43
    · subst e1
      exact intText_plus hl h1 h2 (by have : (cutSg (43 :: cs)).length = cs.length := rfl; omega)
    · by_cases e2 : c = 45
      · subst e2
        exact intText_neg hl h1 h2 (by have : (cutSg (45 :: cs)).length = cs.length := rfl; rw [List.length_cons] at wl; omega)
      · have e3 : cutSg (c :: cs) = c :: cs := by
          unfold cutSg
          rw [if_neg]
          show ¬ (decide (c = 43) || decide (c = 45)) = true
          rw [decide_eq_false e1, decide_eq_false e2]
          decide
        have e4 : valT (c :: cs) = ((NumText.digitsVal (c :: cs) : Nat) : Int) := by
          unfold valT
          rw [e3, if_neg (by simpa using e2)]
        rw [e3] at h1 h2 h3
        rw [e4, ← hl]
        exact intText_digits (by rw [hl]; exact h1) (by rw [hl]; exact h2) (by omega)
/-! ### the texts of numbers -/
theorem cps_iT (k : Int) : (iT k).cps.toList = if k < 0 then 45 :: TL.numL k.natAbs else TL.numL k.natAbs := by
  cases k with
  | ofNat n =>
    rw [if_neg (show ¬ Int.ofNat n < 0 from Int.not_lt.mpr (Int.natCast_nonneg n))]
    exact TL.tl_num n
  | negSucc m =>
    rw [if_pos (by omega)]
    show (Str.ofString ("-" ++ toString ((m + 1 : Nat) : Int))).cps.toList = _
    rw [signs_ofString, String.toList_append, List.map_append, ← signs_ofString (toString ((m + 1 : Nat) : Int)), show (Str.ofString (toString ((m + 1 : Nat) : Int))).cps.toList = TL.numL (m + 1) from TL.tl_num (m + 1)]
    rfl
theorem cps_stT (k : Int) : (stT k).cps.toList = if 0 < k then 43 :: TL.numL k.natAbs else (iT k).cps.toList := by
  unfold stT
  split
  · rename_i h
    rw [PySem.Str.cps_append, Array.toList_append, cps_iT, if_neg (by omega)]
    rfl
  · rfl
theorem okD_num {k : Int} (h : k.natAbs < 10 ^ 60) : okD (TL.numL k.natAbs) = true := by
  have h1 := TL.numL_len (n := k.natAbs) (k := 60) (by decide) h
  have h2 := TL.numL_ne k.natAbs
  have h3 := TL.numL_digits k.natAbs
  unfold okD
  rw [decide_eq_true (by have := List.length_pos_iff.mpr h2; omega), decide_eq_true h1, Bool.true_and, Bool.true_and]
  exact List.all_eq_true.mpr fun c hc => decide_eq_true (h3 c hc)
theorem sg_num (n : Nat) : sgF (TL.numL n) = false := by
  have h := TL.numL_digits n
  match TL.numL n, h with
  | [], _ => rfl
  | c :: l, h =>
    have := h c (List.mem_cons_self ..)
    show (decide (c = 43) || decide (c = 45)) = false
    rw [decide_eq_false (by omega), decide_eq_false (by omega)]
    rfl
theorem cut_num (n : Nat) : cutSg (TL.numL n) = TL.numL n := by
  unfold cutSg
  rw [sg_num, if_neg Bool.false_ne_true]
theorem val_num (n : Nat) : valT (TL.numL n) = (n : Int) := by
  unfold valT
  rw [cut_num, TL.numL_val, if_neg]
  intro z
  have h := sg_num n
  match TL.numL n, z, h with
  | _ :: l, z, h =>
    cases z
    cases h
theorem numT_iT {k : Int} (h : k.natAbs < 10 ^ 60) : numT (iT k) = some k := by
  unfold numT
  rw [cps_iT]
  by_cases hk : k < 0
  · rw [if_pos hk]
    have e : cutSg (45 :: TL.numL k.natAbs) = TL.numL k.natAbs := rfl
    have v : valT (45 :: TL.numL k.natAbs) = -((NumText.digitsVal (TL.numL k.natAbs) : Nat) : Int) := rfl
    rw [e, okD_num h, if_pos rfl, v, TL.numL_val]
    exact congrArg some (by omega)
  · rw [if_neg hk, cut_num, okD_num h, if_pos rfl, val_num]
    exact congrArg some (by omega)
theorem numT_stT {k : Int} (h : k.natAbs < 10 ^ 60) : numT (stT k) = some k := by
  by_cases hk : 0 < k
  · unfold numT
    rw [cps_stT, if_pos hk]
    have e : cutSg (43 :: TL.numL k.natAbs) = TL.numL k.natAbs := rfl
    have v : valT (43 :: TL.numL k.natAbs) = ((NumText.digitsVal (TL.numL k.natAbs) : Nat) : Int) := rfl
    rw [e, okD_num h, if_pos rfl, v, TL.numL_val]
    exact congrArg some (by omega)
  · have e : stT k = iT k := if_neg hk
    rw [e]
    exact numT_iT h
/-- a sign that no digit is and no sign of a number -/
theorem free_stT {k : Int} {s : Nat} (h : s < 43 ∨ 57 < s) : s ∉ (stT k).cps.toList := by
  have hn : s ∉ TL.numL k.natAbs := TL.numL_free (by omega)
  rw [cps_stT]
  split
  · intro z
    rcases List.mem_cons.mp z with e | z
    · omega
    · exact hn z
  · rw [cps_iT]
    split
    · intro z
      rcases List.mem_cons.mp z with e | z
      · omega
      · exact hn z
    · exact hn
theorem ne_stT (k : Int) : (stT k).cps.toList ≠ [] := by
  have hn := TL.numL_ne k.natAbs
  rw [cps_stT]
  split
  · simp
  · rw [cps_iT]
    split
    · simp
    · exact hn
/-- a row of steps, cut at its spaces -/
theorem split_row {ns : List Int} (h : ns ≠ []) : Txt.split (Txt.join " " (ns.map stT)) " " = ns.map stT :=
  TL.split_join (s := 32) (S := []) (by decide +kernel) (by decide +kernel) (fun z => h (List.map_eq_nil_iff.mp z)) fun p hp => by
    obtain ⟨k, _, rfl⟩ := List.mem_map.mp hp
    exact free_stT (.inl (by decide))
/-- no row of steps is 'none' -/
theorem row_none {ns : List Int} (h : ns ≠ []) : Txt.join " " (ns.map stT) ≠ ("none" : Str) := fun z => by
  have e := split_row h
  rw [z, show Txt.split ("none" : Str) " " = [("none" : Str)] by decide +kernel] at e
  match ns, h, e with
  | k :: ms, _, e =>
    rw [List.map_cons] at e
    have e1 : ("none" : Str) = stT k := (List.cons.inj e).1
    have e2 : (110 : Nat) ∈ (stT k).cps.toList := by
      rw [← e1]
      decide +kernel
    exact free_stT (.inr (by decide)) e2
/-! ### readings -/
theorem cps_tail {z : Str} : (cutS z (some 1) none).cps.toList = z.cps.toList.drop 1 := by
  have e : z.cps.toList.length = z.length := Array.length_toList
  unfold cutS
  rw [show ((1 : Int)) = ((1 : Nat) : Int) from rfl, HT.sIx_nat, HT.sIx_none]
  show (z.cps.toList.drop (min 1 z.length)).take (z.length - min 1 z.length) = _
  rw [← e]
  match z.cps.toList with
  | [] => rfl
  | c :: l =>
    rw [Nat.min_eq_left (by rw [List.length_cons]; omega)]
    exact List.take_of_length_le (by rw [List.length_drop]; exact Nat.le_refl _)
theorem cps_head {z : Str} : (cutS z none (some 1)).cps.toList = z.cps.toList.take 1 := by
  have e : z.cps.toList.length = z.length := Array.length_toList
  unfold cutS
  rw [show ((1 : Int)) = ((1 : Nat) : Int) from rfl, HT.sIx_nat, HT.sIx_none]
  show (z.cps.toList.drop 0).take (min 1 z.length - 0) = _
  rw [← e]
  match z.cps.toList with
  | [] => rfl
  | c :: l =>
    rw [Nat.min_eq_left (by rw [List.length_cons]; omega)]
    rfl
theorem str_eq {a b : Str} (h : a.cps.toList = b.cps.toList) : a = b := by
  obtain ⟨⟨l⟩⟩ := a
  obtain ⟨⟨m⟩⟩ := b
  exact congrArg (fun l => Str.mk ⟨l⟩) h
theorem in_sg {w : Str} : inV (.str (cutS w none (some 1))) [.str "+", .str "-"] = sgF w.cps.toList := by
  have h := cps_head (z := w)
  generalize cutS w none (some 1) = a at h
  have e1 : (a = ("+" : Str)) ↔ w.cps.toList.head? = some 43 := by
    constructor
    · intro e
      rw [e] at h
      have h2 : [43] = w.cps.toList.take 1 := h
      match w.cps.toList, h2 with
      | c :: l, h2 =>
        cases h2
        rfl
    · intro e
      refine str_eq ?_
      rw [h]
      match w.cps.toList, e with
      | c :: l, e =>
        cases e
        rfl
  have e2 : (a = ("-" : Str)) ↔ w.cps.toList.head? = some 45 := by
    constructor
    · intro e
      rw [e] at h
      have h2 : [45] = w.cps.toList.take 1 := h
      match w.cps.toList, h2 with
      | c :: l, h2 =>
        cases h2
        rfl
    · intro e
      refine str_eq ?_
      rw [h]
      match w.cps.toList, e with
      | c :: l, e =>
        cases e
        rfl
  have e3 : sgF w.cps.toList = (decide (w.cps.toList.head? = some 43) || decide (w.cps.toList.head? = some 45)) := by
    match w.cps.toList with
    | [] => rfl
    | c :: l => simp [sgF]
  rw [e3]
  simp only [inV, List.any_cons, List.any_nil, Bool.or_false]
  have key : ∀ (b : Str) (n : Nat), ((a = b) ↔ w.cps.toList.head? = some n) → eqV (.str b) (.str a) = decide (w.cps.toList.head? = some n) := fun b n e => by
    show (b == a) = _
    by_cases c : w.cps.toList.head? = some n
    · rw [e.mpr c, decide_eq_true c]
      exact beq_self_eq_true _
    · rw [decide_eq_false c]
      exact beq_eq_false_iff_ne.mpr fun z => c (e.mp z.symm)
  rw [key _ _ e1, key _ _ e2]
section
variable {X : Cx} {σ : L2.St} {H : Hp} {Q : VK} {K : PySem.W.Frag}
theorem st_slS {z : Str} {lo hi : Option Int} (hz : z.length ≤ 100000) (q : Q (.str (cutS z lo hi)) H) : rSlS (.str z) lo hi H Q := ⟨z, rfl, Nat.le_trans hz (by decide), q⟩
/-- len(text) -/
def rLenTx : List V → Hp → VK → Prop := fun xs H Q => ∃ z, xs = [.str z] ∧ z.length ≤ sizeLine ∧ Q (.int z.length) H
theorem call_lenTx : CallR X (.builtin "len") rLenTx := call_len_str
theorem st_lenTx {z : Str} (hz : z.length ≤ 100000) (q : Q (.int z.length) H) : rLenTx [.str z] H Q := ⟨z, rfl, Nat.le_trans hz (by decide), q⟩
/-- sign in text -/
def rInC : V → V → Hp → VK → Prop := fun x y H Q => ∃ (c : Nat) (z : Str), x = .str ⟨#[c]⟩ ∧ y = .str z ∧ Q (.bl (decide (c ∈ z.cps.toList))) H
theorem op_inC : OpR X (compareOp .In) rInC := op_in_sign
theorem st_inC {c : Nat} {z : Str} (q : Q (.bl (decide (c ∈ z.cps.toList))) H) : rInC (.str ⟨#[c]⟩) (.str z) H Q := ⟨c, z, rfl, rfl, q⟩
/-- int(text) -/
def rIntT : List V → Hp → VK → Prop := fun xs H Q => ∃ a n, xs = [.str a] ∧ PySem.intText? a = some n ∧ a.length ≤ 640 ∧ Q (.int n) H
theorem call_intT : CallR X (.type "int") rIntT := call_int_str
theorem st_intT {w : Str} (h : okD (cutSg w.cps.toList) = true) (q : Q (.int (valT w.cps.toList)) H) : rIntT [.str w] H Q := by
  refine ⟨w, _, rfl, int_numT h, ?_, q⟩
  obtain ⟨_, _, h3⟩ := okD_all h
  have e : w.cps.toList.length = w.length := Array.length_toList
  have e2 : w.cps.toList.length ≤ (cutSg w.cps.toList).length + 1 := by
    unfold cutSg
    split
    · rw [List.length_drop]
      omega
    · omega
  omega
theorem st_itS {te : TE} {R : It → Hp → Prop} (h : te σ H fun v H1 => ∃ x, v = .str x ∧ R (Its x) H1) : iStr te σ H R := h
theorem st_itS1 {x : Str} {R : Str → Prop} (h : R x) : ∃ y, V.str x = .str y ∧ R y := ⟨x, rfl, h⟩
/-- [f(sign) for sign in text if p(sign)] -/
theorem lcS {D : Addr} {x : Str} {g : TG} {tt : TT} {te : TE} {vs : List Nat} {Qd : Hp → Prop} (p : Nat → Bool) (f : Nat → V) (n : H D = none) (hl : x.length ≤ 100000)
    (step : ∀ (c : Nat) (H' : Hp) (R : VK) (RF : Hp → Prop), c ∈ x.cps.toList → Same H H' → (p c = true → ∀ H4, Same H' H4 → R (f c) H4) → (p c = false → ∀ H4, Same H' H4 → RF H4) →
      g (.str ⟨#[c]⟩) (wipe σ vs) H' fun σ2 H2 => wipe σ2 vs = wipe σ vs ∧ tt σ2 H2 fun b H3 => if b = true then te σ2 H3 R else RF H3)
    (q : ∀ H', Same H H' → H' D = some (.lst ((x.cps.toList.filter p).map f)) → Qd H') :
    ∃ W : Nat → Nat → Hp → Prop, (∃ m, W 0 m (upd H D (.lst []))) ∧ ∀ i m H, W i m H →
      ((Its x).stop i H ∧ Qd H) ∨ ((Its x).go i H ∧ ∃ Nx : Hp → Prop, (∀ H', Nx H' → ∃ m', m' < m ∧ W (i + 1) m' H') ∧ ∀ y H', (Its x).yld i H y H' → g y (wipe σ vs) H' fun σ2 H2 => wipe σ2 vs = wipe σ vs ∧ tt σ2 H2 fun b H3 =>
        if b = true then te σ2 H3 fun y H4 => ∃ acc, H4 D = some (.lst acc) ∧ acc.length < sizeLine ∧ Nx (upd H4 D (.lst (acc ++ [y]))) else Nx H3) := by
  have xl : x.cps.toList.length = x.cps.size := Array.length_toList
  have xs : x.cps.size = x.length := rfl
  refine ⟨fun i m H' => m = x.cps.size - i ∧ i ≤ x.cps.size ∧ Same H H' ∧ H' D = some (.lst (((x.cps.toList.take i).filter p).map f)), ⟨_, rfl, Nat.zero_le _, Same.new n, upd_same⟩, ?_⟩
  rintro i m H1 ⟨rfl, hi, sm, hD⟩
  by_cases c : i < x.cps.size
  · refine .inr ⟨c, fun H' => Same H H' ∧ H' D = some (.lst (((x.cps.toList.take (i + 1)).filter p).map f)), fun H' h => ⟨_, Nat.sub_succ_lt_self _ _ c, rfl, c, h⟩, ?_⟩
    rintro y H' ⟨rfl, k, hk, rfl⟩
    have gk : x.cps.toList[i]? = some k := by rw [Array.getElem?_toList]; exact hk
    refine step k H' _ _ (List.mem_of_getElem? gk) sm (fun hp H4 s4 => ?_) (fun hp H4 s4 => ?_)
    · refine ⟨_, s4 _ _ hD, len_lt ?_, same_trU n (same_tr s4 sm), ?_⟩
      · have l1 := List.length_filter_le p (x.cps.toList.take i)
        rw [List.length_map]
        rw [List.length_take] at l1
        omega
      · rw [upd_same, List.take_add_one, gk, List.filter_append]
        simp [hp]
    · refine ⟨same_tr s4 sm, ?_⟩
      rw [s4 _ _ hD, List.take_add_one, gk, List.filter_append]
      simp [hp]
  · obtain rfl : i = x.cps.size := by omega
    refine .inl ⟨Nat.le_refl _, q H1 sm ?_⟩
    rw [hD, List.take_of_length_le (by omega)]
theorem st_all {a : Addr} {bs : List Bool} (h : SqL K H a (bs.map V.bl)) (q : Q (.bl (bs.all id)) H) : rAll K [.ref a] H Q := ⟨a, bs, rfl, h, q⟩
theorem dig_in (c : Nat) : decide (c ∈ ("0123456789" : Str).cps.toList) = isDig c := by
  have e : ("0123456789" : Str).cps.toList = [48, 49, 50, 51, 52, 53, 54, 55, 56, 57] := by decide +kernel
  rw [e]
  unfold isDig
  by_cases h : 48 ≤ c ∧ c ≤ 57
  · rw [decide_eq_true h]
    refine decide_eq_true ?_
    simp only [List.mem_cons, List.not_mem_nil, or_false]
    omega
  · rw [decide_eq_false h]
    refine decide_eq_false ?_
    simp only [List.mem_cons, List.not_mem_nil, or_false]
    omega
end
theorem joinL_len (s : List Nat) : ∀ ps : List (List Nat), (TL.joinL s ps).length ≤ (ps.map (·.length)).sum + ps.length * s.length
  | [] => by simp [TL.joinL]
  | [p] => by simp [TL.joinL]
  | p :: z :: r => by
    have ih := joinL_len s (z :: r)
    show (p ++ (s ++ TL.joinL s (z :: r))).length ≤ _
    rw [List.length_append, List.length_append, List.map_cons, List.sum_cons, List.length_cons, Nat.succ_mul]
    omega
theorem join_len (y : Str) (ps : List Str) : (Txt.join y ps).length ≤ (ps.map (·.length)).sum + ps.length * y.length := by
  have h := joinL_len (TL.tl y) (ps.map TL.tl)
  rw [← TL.tl_join, List.map_map, List.length_map] at h
  rw [TL.join_eq]
  exact h
theorem row_len {ns : List Int} (h : ∀ k ∈ ns, k.natAbs < 2 ^ 200) : (rowT ns).length ≤ 203 * ns.length + 4 := by
  unfold rowT
  split
  · exact Nat.le_add_left _ _
  · have a := row_fits h
    have b := join_len " " (ns.map stT)
    rw [List.length_map, show (Str.ofString " ").length = 1 from rfl] at b
    omega
theorem in_non : ∀ ns : List Int, inV .non (ns.map V.int) = false
  | [] => rfl
  | n :: ns => by
    have h := in_non ns
    simp only [inV] at h ⊢
    rw [List.map_cons, List.any_cons, h]
    rfl
section
variable {σ : L2.St} {H : Hp} {Q : VK} {to te : TE}
theorem st_m1 {r : V → List V → Hp → VK → Prop} (h : to σ H fun x H1 => (∃ a, x = .str a) ∧ te σ H1 fun y H2 => r x [y] H2 Q) : tM1 r to te σ H Q := h
theorem st_split {a b : Str} (hb : (b.length == 0) = false) (hl : a.length ≤ 10000000) (q : ∀ p, H p = none → Q (.ref p) (upd H p (.lst ((Txt.split a b).map V.str)))) :
    ∃ x y, V.str a = .str x ∧ [V.str b] = [.str y] ∧ (y.length == 0) = false ∧ x.length + 2 ≤ sizeLine ∧ rNewStrs (Txt.split x y) H Q := ⟨a, b, rfl, rfl, hb, Nat.le_trans (Nat.add_le_add_right hl 2) (by decide), q⟩
end
theorem big_60 {k : Int} (h : k.natAbs < 10 ^ 60) : k.natAbs < 2 ^ 200 := Nat.lt_of_lt_of_le h (by decide)
theorem un65 {k : Nat} {A : Around} (hr : Room k A) : A.units + 65 < cLine := by
  have z := hr.un
  omega
end Mc
/-! lists walked, tuples taken apart, defs called while an exception is handled -/
namespace Mc
open PySem PySem.Spec PyProof.Rows L2 HotX L2H
section
variable {prog : Program} {w : World} {A : Around} {E : Value → Shared → Prop} {s : Shared}
theorem HotAt.keep {x1 : Addr} {h h' : Heap} (hot : HotAt A x1 h) (k : ∀ o, h.get? x1 = some o → h'.get? x1 = some o) : HotAt A x1 h' := by
  obtain ⟨hh, o, vs, e, d, c⟩ := hot
  exact ⟨hh, o, vs, k o e, d, c⟩
/-- raise StopIteration while x1 is handled: the new exception bears x1 as its context -/
theorem stop_hot {α : Type} {x1 : Addr} {Q : α → Shared → Prop} (hot : HotAt A x1 s.heap)
    (hQ : ∀ h' a, (∀ b o, s.heap.get? b = some o → h'.get? b = some o) → ({ s with heap := h' } : Shared).TypeIs (.ref a) "StopIteration" → E (.ref a) { s with heap := h' }) :
    wpAny (model prog w) A (newExc (.type "StopIteration") [] >>= fun e => (raiseNew e : Sem α)) Q E s := by
  have k1 : ∀ (h : Heap) (t : Obj) b o, h.get? b = some o → (h.push t).get? b = some o := fun h t b o e => Heap.get?_push_of_some t e
  have made : wpAny (model prog w) A (newExc (.type "StopIteration") []) (fun e s1 => wpAny (model prog w) A (raiseNew e : Sem α) Q E s1) E s := by
    unfold newExc newTuple
    refine wpAny_bind (wpAny_newObj_type ?_ (by size_fits))
    refine wpAny_bind (m := firstArgMember _ _) (wpAny_of_eq (a := Value.none) (by unfold firstArgMember; rfl) (wpAny_newObj_type ?_ (by size_fits)))
    obtain ⟨hh, o, vs, e, d, c⟩ := hot
    have lt := Heap.lt_size (k1 s.heap { cls := .type "tuple", data := .seq #[] } _ _ e)
    refine raiseNew_hot ⟨hh, o, vs, k1 _ _ _ _ (k1 _ _ _ _ e), d, c⟩ (Nat.ne_of_lt lt) (Heap.get?_push_size _ rfl) rfl ?_ ?_
    · rw [Array.size_append]
      exact Nat.lt_of_lt_of_le (by decide : 2 < 6) (Nat.le_add_right _ _)
    · refine hQ _ _ (fun b u z => ?_) ⟨_, Heap.get?_update_self _ (Heap.get?_push_size _ rfl) rfl, rfl⟩
      have z1 := k1 s.heap { cls := .type "tuple", data := .seq #[] } _ _ z
      exact (Heap.get?_update_other _ _ (Nat.ne_of_gt (Heap.lt_size z1))).trans (k1 _ _ _ _ z1)
  exact wpAny_bind made
/-- list: its iterator at the end -/
theorem list_endH {it l x1 : Addr} {i : Nat} {items} {Q : Option Value → Shared → Prop} (hot : HotAt A x1 s.heap) (ne : x1 ≠ it) (hit : s.heap.IsListIter it l i) (hl : s.heap.IsList l items) (hx : items[i]? = none)
    (q : ∀ h', (∀ b, b ≠ it → ∀ o, s.heap.get? b = some o → h'.get? b = some o) → Q none { s with heap := h' }) : wpAny (model prog w) A (pyNext (.ref it)) Q E s := by
  obtain ⟨oi, gi, _, di⟩ := id hit
  obtain ⟨ol, gl, _, _, dl⟩ := hl
  have off : ∀ (f : Obj → Obj) b, b ≠ it → ∀ o, s.heap.get? b = some o → (s.heap.update it f).get? b = some o := fun f b n o e => (Heap.get?_update_other _ f n.symm).trans e
  unfold pyNext
  refine wpAny_bind (wpAny_attempt (wpAny_callSpecial?_slot (name := Str.ofString "__next__") hit.typeIs slot_listiter_next (wpAny_call_entry slot_listiter_next hit.typeIs entry_listiter_next ?_ (args_listiter_next _))))
  change wpAny _ _ (field (.ref it) 0 >>= _) _ _ _
  refine wpAny_bind (wpAny_field gi di (x := .ref l) rfl ?_)
  change wpAny _ _ (if false = true then _ else field (.ref it) 1 >>= _) _ _ _
  rw [if_neg Bool.false_ne_true]
  refine wpAny_bind (wpAny_field gi di (x := .int i 0) rfl ?_)
  change wpAny _ _ (seqItems? (.ref l) >>= _) _ _ _
  refine wpAny_bind (wpAny_seqItems gl dl ?_)
  dsimp only
  rw [Int.toNat_natCast, hx]
  refine wpAny_bind (wpAny_rule (wpAny_bind (wpAny_setField gi di (by simp) (stop_hot (HotAt.keep hot fun o e => off _ x1 ne o e) fun h' a k t => ?_))))
  exact wpAny_bind (wpAny_isInstance t isSubtype_stop (wpAny_pure (q h' fun b n o e => k _ _ (off _ b n o e))))
/-- tuple: its iterator at the end -/
theorem tuple_endH {it l x1 : Addr} {i : Nat} {items} {Q : Option Value → Shared → Prop} (hot : HotAt A x1 s.heap) (ne : x1 ≠ it) (hit : IsTupIter s.heap it l i) (hl : IsTup s.heap l items) (hx : items[i]? = none)
    (q : ∀ h', (∀ b, b ≠ it → ∀ o, s.heap.get? b = some o → h'.get? b = some o) → Q none { s with heap := h' }) : wpAny (model prog w) A (pyNext (.ref it)) Q E s := by
  obtain ⟨oi, gi, _, di⟩ := id hit
  obtain ⟨ol, gl, _, _, dl⟩ := hl
  have off : ∀ (f : Obj → Obj) b, b ≠ it → ∀ o, s.heap.get? b = some o → (s.heap.update it f).get? b = some o := fun f b n o e => (Heap.get?_update_other _ f n.symm).trans e
  unfold pyNext
  refine wpAny_bind (wpAny_attempt (wpAny_callSpecial?_slot (name := Str.ofString "__next__") hit.typeIs slot_tupleiter_next (wpAny_call_entry slot_tupleiter_next hit.typeIs entry_tupleiter_next ?_ (args_tupleiter_next _))))
  change wpAny _ _ (field (.ref it) 0 >>= _) _ _ _
  refine wpAny_bind (wpAny_field gi di (x := .ref l) rfl ?_)
  change wpAny _ _ (if false = true then _ else field (.ref it) 1 >>= _) _ _ _
  rw [if_neg Bool.false_ne_true]
  refine wpAny_bind (wpAny_field gi di (x := .int i 0) rfl ?_)
  change wpAny _ _ (seqItems? (.ref l) >>= _) _ _ _
  refine wpAny_bind (wpAny_seqItems gl dl ?_)
  dsimp only
  rw [Int.toNat_natCast, hx]
  refine wpAny_bind (wpAny_rule (wpAny_bind (wpAny_setField gi di (by simp) (stop_hot (HotAt.keep hot fun o e => off _ x1 ne o e) fun h' a k t => ?_))))
  exact wpAny_bind (wpAny_isInstance t isSubtype_stop (wpAny_pure (q h' fun b n o e => k _ _ (off _ b n o e))))
/-- target, target, .. = a tuple -/
theorem unpackH {x1 t : Addr} {items : Array Value} {Q : List Value → Shared → Prop} (hot : HotAt A x1 s.heap) (ht : IsTup s.heap t items)
    (q : ∀ h', (∀ b o, s.heap.get? b = some o → h'.get? b = some o) → Q items.toList { s with heap := h' }) : wpAny (model prog w) A (unpackItems (.ref t) items.size none) Q E s := by
  have nt : t ≠ s.heap.objs.size := by
    obtain ⟨o, e, _⟩ := ht
    exact Nat.ne_of_lt (Heap.lt_size e)
  have nx : x1 ≠ s.heap.objs.size := by
    obtain ⟨_, o, _, e, _⟩ := hot
    exact Nat.ne_of_lt (Heap.lt_size e)
  have iterable : wpAny (model prog w) A (notIterableAtAll (.ref t)) (fun r s1 => r = false ∧ s1 = s) E s := by
    unfold notIterableAtAll
    exact wpAny_bind (wpAny_specialOf ht.typeIs slot_tuple_iter.lookup (wpAny_pure ⟨rfl, rfl⟩))
  unfold unpackItems
  refine wpAny_bind (wpAny_mono iterable (fun r s1 hr => ?_) fun _ _ z => z)
  obtain ⟨rfl, rfl⟩ := hr
  rw [if_neg Bool.false_ne_true]
  refine wpAny_bind (wpAny_holding (iter_tuple ht (wpAny_bind (wpAny_holding (draw_tuple nt items.size 0 _ _ ⟨_, Heap.get?_push_size _ rfl, rfl, rfl⟩ (ht.push _) (by omega) fun h1 it1 sb => ?_)))))
  have keep1 : ∀ b, b ≠ s1.heap.objs.size → ∀ o, s1.heap.get? b = some o → h1.get? b = some o := fun b n o e => (sb.2 b n).trans (Heap.get?_push_of_some _ e)
  rw [show (items.toList.drop 0).take items.size = items.toList by rw [List.drop_zero, ← Array.length_toList, List.take_length], if_neg (by simp)]
  refine wpAny_bind (wpAny_holding (tuple_endH (HotAt.keep hot fun o e => keep1 x1 nx o e) nx it1 ((ht.push _).extBut sb.extBut nt) (by simp) fun h2 k2 => ?_))
  exact wpAny_pure (q h2 fun b o e => k2 b (Nat.ne_of_lt (Heap.lt_size e)) o (keep1 b (Nat.ne_of_lt (Heap.lt_size e)) o e))
end
section
variable {X : Cx} {pos : Pos} {tg : Expr}
theorem pg_tupH {es : List Expr} {k : Nat} {t : TGs} {n : Nat} (hc : HotC X) (h : PGs X es t)
    (hn : (assignEach es X.env).length = n := by rfl) (hst : (assignEach es X.env).findIdx? (·.1) = none := by rfl) : PG X (.Tuple es k pos) (gTup X.K n t) := by
  refine ⟨fun pins s σ H v u Q I r ⟨a, xs, ev, hq, hl, go⟩ => ?_⟩
  subst ev
  obtain rfl : u = Value.ref a := r
  obtain ⟨its, rv, ht, _⟩ := I.tuple hq
  obtain ⟨x1, hot⟩ := hc.at I
  have sz : (assignEach es X.env).length = its.toArray.size := by
    rw [hn, ← hl, rv.length]
    simp
  rw [assign_Tuple]
  refine wpAny_bind (wpAny_standAt ?_)
  unfold unpack
  rw [sz, hst]
  refine wpAny_bind (wpAny_holding (unpackH hot ht fun h' k' => ?_))
  exact h.run pins _ σ H xs _ Q (I.kept (t' := s.toks) k') (by simpa using rv) go
theorem turn_listH {P : Program} {w : World} {K : PySem.W.Frag} (a it : Addr) : TurnH P w K tg (Itl K a) [it] it (fun i h => h.IsListIter it a i) := by
  have T := turn_list (P := P) (w := w) (K := K) (tg := tg) a it
  refine ⟨T.mem, T.obj, T.keep, fun X hP hw hK _ i pins s σ H E I hf st hg => ?_, fun X hP hw hK hc i pins s σ H E I hf st hg => ?_, T.self⟩
  · subst hP hw hK
    obtain ⟨xs, x, hq, hx⟩ := hg
    obtain ⟨its, rv, p, _⟩ := I.list hq
    obtain ⟨u, hu, ru⟩ := rv.get hx
    have fp := hf it (List.mem_singleton.mpr rfl)
    refine wpAny_pyNext_list_item st p.isList (x := u) (by simpa using hu) fun h1 st1 sb => ?_
    have I1 : Inv X pins σ H { s with heap := h1 } := I.turned (t' := s.toks) (fun b o n e => (sb.2 b n).trans e) fp.1 fp.2.1 fp.2.2.2.1 fp.2.2.2.2.1 fp.2.2.2.2.2
    obtain ⟨oi, gi, ci, di⟩ := id st1
    refine ⟨u, rfl, go_of (s := { s with heap := h1 }) gi ci di (by decide) ⟨x, H, I1, ru, ⟨rfl, fun ys hy => ?_⟩, st1, fun b hb => (hf b hb).1⟩⟩
    rw [I.list_inj hy hq]
    exact hx
  · subst hP hw hK
    obtain ⟨xs, hq, hx⟩ := hg
    obtain ⟨its, rv, p, _⟩ := I.list hq
    have fp := hf it (List.mem_singleton.mpr rfl)
    obtain ⟨q, ⟨hh, v1, e1, c1⟩, hp⟩ := hc
    have hp2 : q ∈ X.pn ++ pins := List.mem_append_left _ hp
    have hl := rv.length
    exact list_endH ⟨hh, q.2, v1, (I.pin q hp2).1, e1, c1⟩ (fp.2.2.2.2.2 q hp2) st p.isList (by simp; omega) fun h1 k1 =>
      ⟨rfl, I.turned (t' := s.toks) (fun b o n e => k1 b n o e) fp.1 fp.2.1 fp.2.2.2.1 fp.2.2.2.2.1 fp.2.2.2.2.2⟩
theorem pi_listH {l : Expr} {tl : TE} (hl : PE X l tl) : PIH X tg l (iList X.K tl) := by
  refine ⟨fun pins s σ H R I h => thn (hl.run pins s σ H _ I h) fun v s1 ⟨x, H1, I1, r1, a, ex, ⟨xs, hq⟩, q⟩ => ?_⟩
  subst ex
  obtain rfl : v = Value.ref a := r1
  obtain ⟨its, rv, p, _⟩ := I1.list hq
  refine wpAny_pyIter_list p.isList ⟨s1.heap.objs.size, [s1.heap.objs.size], _, _, H1, rfl, I1.kept (t' := s1.toks) fun b o e => Heap.get?_push_of_some _ e, turn_listH a _, ⟨_, Heap.get?_push_size _ rfl, rfl, rfl⟩, fun b hb => ?_, q⟩
  rw [List.mem_singleton.mp hb]
  exact I1.fpOk (Nat.le_refl _) (I1.hok.fresh (Nat.le_refl _))
end
/-! ### name = [elt for target in iter if test], an exception being handled -/
abbrev blkH (X : Cx) (s : Shared) (H : Hp) (scope : Scope) (ce : Env) (fp : List Addr) : Cx := { X.blk s H scope ce fp with pn := X.pn }
section
variable {X : Cx}
/-- what a block's context is -/
theorem blk_okH {s : Shared} {H : Hp} {scope : Scope} {ce : Env} {fp : List Addr} (ok : (X.blk s H scope ce fp).Ok) : (blkH X s H scope ce fp).Ok := by
  obtain ⟨a1, a2, a3, a4, a5, a6, a7, a8, a9, b1, b2, b3, b4, b5, b6, b7, b8, b9⟩ := ok
  exact ⟨a1, a2, a3, a4, a5, a6, a7, a8, a9, b1, b2, b3, b4, b5, b6, b7, b8, b9⟩
theorem blk_invH {s s4 : Shared} {H : Hp} {σ σ' : L2.St} {pins : List (Addr × Obj)} {scope : Scope} {ce : Env} {fp : List Addr} (I : Inv X pins σ H s) (J : Inv (X.blk s H scope ce fp) [] σ' H s4)
    (k : ∀ b o, s.heap.get? b = some o → s4.heap.get? b = some o) (hL : ce.locals = s.heap.objs.size) : Inv (blkH X s H scope ce fp) [] σ' H s4 := by
  obtain ⟨ok, os, bare, base, loc, cell, free, freeC, pin, hok, len⟩ := J
  refine ⟨blk_okH ok, os, bare, base, loc, cell, free, freeC, fun p hp => ?_, hok, len⟩
  have hp2 : p ∈ X.pn := by simpa using hp
  have P := I.pin p (List.mem_append_left _ hp2)
  refine ⟨k _ _ P.1, P.2.1, ?_, fun hm => (List.mem_cons.mp (I.stkSub p.1 hm)).elim P.2.2.1 P.2.2.2.1, P.2.2.2.2⟩
  show p.1 ≠ ce.locals
  rw [hL]
  exact Nat.ne_of_lt (Heap.lt_size P.1)
/-- no exception leaves: what is expected of one does not matter -/
theorem noE {α : Type} {t : Sem α} {Q Q' : α → Shared → Prop} {M : Model} {A : Around} {E : Value → Shared → Prop} {s : Shared} (h : wpAny M A t Q (fun _ _ => False) s) (f : ∀ a s, Q a s → Q' a s) : wpAny M A t Q' E s :=
  wpAny_mono h f fun _ _ z => z.elim
theorem lc_loopH {s3 s4 : Shared} {σ : L2.St} {H3 : Hp} {elt tg iter : Expr} {ifs : List Expr} {scope : Scope} {vs : List Nat} {pos : Pos} {g : TG} {tt : TT} {te : TE} {ce : Env} {fp : List Addr} {it D : Addr} {tn : Nat → Heap → Prop} {J : It}
    {R : Result → Shared → Prop} {Done : Hp → Prop} {W : Nat → Nat → Hp → Prop} {m0 : Nat}
    (hc : HotC X) (T : TurnH X.prog X.w X.K tg J fp it tn) (pg : PG (blkH X s3 H3 scope ce fp) tg g) (pt : PTs (blkH X s3 H3 scope ce fp) ifs tt) (pe : PE (blkH X s3 H3 scope ce fp) elt te)
    (apart : ∀ b ∈ fp, ∀ p ∈ X.pn, p.1 ≠ b) (I4 : Inv (blkH X s3 H3 scope ce fp) [] (wipe σ vs) H3 s4) (t4 : tn 0 s4.heap) (n4 : ∀ b ∈ fp, H3 b = none) (w0 : W 0 m0 H3)
    (turn : ∀ i m H, W i m H → (J.stop i H ∧ Done H) ∨ (J.go i H ∧ ∃ Nx : Hp → Prop, (∀ H', Nx H' → ∃ m', m' < m ∧ W (i + 1) m' H') ∧ ∀ x H', J.yld i H x H' → g x (wipe σ vs) H' fun σ2 H2 => wipe σ2 vs = wipe σ vs ∧ tt σ2 H2 fun b H3 =>
      if b = true then te σ2 H3 fun y H4 => ∃ acc, H4 D = some (.lst acc) ∧ acc.length < sizeLine ∧ Nx (upd H4 D (.lst (acc ++ [y]))) else Nx H3))
    (fin : ∀ s' H', Inv (blkH X s3 H3 scope ce fp) [] (wipe σ vs) H' s' → Done H' → R (.ok .next) s') :
    codeAny (model X.prog X.w) X.A (.compLoop (.ListComp elt [⟨tg, iter, ifs, 0⟩] scope pos) 0 (.ref it) (.ref D) ce) R s4 := by
  have hot : HotC (blkH X s3 H3 scope ce fp) := hc
  have okF : ∀ {σ' : L2.St} {H' : Hp} {s' : Shared} {pl : List (Addr × Obj)}, Inv (blkH X s3 H3 scope ce fp) pl σ' H' s' → (∀ b ∈ fp, H' b = none) → ∀ b ∈ fp, FpOk (blkH X s3 H3 scope ce fp) [] H' b := fun {σ' H' s' pl} Z n b hb =>
    ⟨n b hb, (Z.ok.exf b hb).1, Z.ok.exfs b hb, .inl hb, (Z.ok.exf b hb).2, fun p hp => apart b hb p (by simpa using hp)⟩
  refine compLoop_any (fun n s' => ∃ i H', Inv (blkH X s3 H3 scope ce fp) [] (wipe σ vs) H' s' ∧ tn i s'.heap ∧ (∀ b ∈ fp, H' b = none) ∧ W i n H') (fun n s5 ⟨i, H5, I5, t5, n5, w5⟩ => ?_) m0 ⟨0, H3, I4, t4, n4, w0⟩
  rcases turn i n H5 w5 with ⟨stop, d⟩ | ⟨go, Nx, hN, step⟩
  · refine noE (T.done (blkH X s3 H3 scope ce fp) rfl rfl rfl hot i [] s5 _ H5 (fun _ _ => False) I5 (okF I5 n5) t5 stop) fun r s6 ⟨er, I6⟩ => ?_
    subst er
    exact fin s6 H5 I6 d
  · refine noE (T.item (blkH X s3 H3 scope ce fp) rfl rfl rfl hot i [] s5 _ H5 (fun _ _ => False) I5 (okF I5 n5) t5 go) fun r s6 ⟨u, er, h6⟩ => ?_
    subst er
    refine noE h6 fun _ s7 ⟨x, H7, I7, r7, y7, t7, n7⟩ => ?_
    refine noE (pg.run _ s7 _ H7 x u _ (I7.pinned (okF I7 n7) (T.obj _ _ t7)) r7 (step x H7 y7)) fun _ s8 ⟨σ8, H8, I8, ew, q8⟩ => ?_
    refine noE (pt.run _ s8 σ8 H8 _ I8 q8) fun b s9 ⟨H9, I9, q9⟩ => ?_
    have again : ∀ s' H', Inv (blkH X s3 H3 scope ce fp) ([] ++ pinsAt fp s7.heap) σ8 H' s' → Nx H' → ∃ m, m < n ∧ ∃ i H', Inv (blkH X s3 H3 scope ce fp) [] (wipe σ vs) H' s' ∧ tn i s'.heap ∧ (∀ b ∈ fp, H' b = none) ∧ W i m H' := fun s' H' Z nx => by
      obtain ⟨m', lt, w'⟩ := hN H' nx
      have held : ∀ b ∈ fp, ∀ o, s7.heap.get? b = some o → s'.heap.get? b = some o ∧ H' b = none := fun b hb o e =>
        have P := Z.pin (b, o) (List.mem_append_right _ (List.mem_append_right _ (mem_pinsAt hb e)))
        ⟨P.1, P.2.1⟩
      refine ⟨m', lt, i + 1, H', (Z.unpinned (pins := [])).weak (by rw [← ew, wipe_length]) (fun j v e => (wipe_some (by rw [ew]; exact e)).1), T.keep _ _ _ t7 fun b hb o e => (held b hb o e).1, fun b hb => ?_, w'⟩
      obtain ⟨o, e, _⟩ := T.obj _ _ t7 b hb
      exact (held b hb o e).2
    cases b with
    | false => exact again s9 H9 I9 q9
    | true =>
      refine noE (pe.run _ s9 σ8 H9 _ I9 q9) fun z s10 ⟨yv, H10, I10, r10, acc, eD, lt, nx⟩ => ?_
      exact app_ok (X := blkH X s3 H3 scope ce fp) I10 eD lt r10 fun s11 I11 => again s11 _ I11 nx
theorem ps_setLcH {i : Nat} {y : Str} {py : Pos} {elt tg iter : Expr} {ifs : List Expr} {scope : Scope} {own : List (Str × Nat)} {pos spos : Pos} {wi : TI} {g : TG} {tt : TT} {te : TE} (hc : HotC X) (hN : X.N.Nodup) (hy : X.N[i]? = some y) (hyl : X.env.scope.names.lookup y = some .local)
    (hsw : swapsWith (.ListComp elt [⟨tg, iter, ifs, 0⟩] scope pos) (some (.Name y py)) spos.line X.env = pure true) (hi : PIH X tg iter wi) (ok : BlkOk X.N X.env.scope scope own)
    (hg : ∀ (s : Shared) (H : Hp) (C : Addr) (cl : List (Str × Addr)) (fp : List Addr), PG (blkH X s H scope (compEnvC scope cl C X.env) fp) tg g) (ht : ∀ (s : Shared) (H : Hp) (C : Addr) (cl : List (Str × Addr)) (fp : List Addr), PTs (blkH X s H scope (compEnvC scope cl C X.env) fp) ifs tt)
    (he : ∀ (s : Shared) (H : Hp) (C : Addr) (cl : List (Str × Addr)) (fp : List Addr), PE (blkH X s H scope (compEnvC scope cl C X.env) fp) elt te) (hs : ∀ x, foldedSetIterable iter X.env x = pure x := by intro _; rfl) :
    PS X (.Assign [.Name y py] (.ListComp elt [⟨tg, iter, ifs, 0⟩] scope pos) spos) (tAsg (tLc wi g tt te (own.map (·.2))) (gName i)) := by
  refine ⟨fun pins s σ H Dd I h => ?_⟩
  have cells : ∀ x ∈ scope.names, x.2 = .free → ∃ c, X.env.cells.lookup x.1 = some c := fun x hx e => I.ok.has _ (ok.free x hx e)
  rw [exec_Assign_Name_used _ _ _ _ hsw]
  refine wpAny_bind (wpAny_standAt (wpAny_bind ?_))
  change wpAny _ X.A (comprehension (.ListComp elt [⟨tg, iter, ifs, 0⟩] scope pos) scope X.env (firstIterPos [⟨tg, iter, ifs, 0⟩] pos) (newList []) false (eval iter X.env) (some (assign (.Name y py) X.env)) >>= fun _ => pure ()) _ _ s
  refine wpAny_bind (wpAny_comprehension_free rfl hs (closure_ok cells) ok.kind (fun x hx e => by rw [ok.uniq x hx, e]) (thn (hi.run pins s σ H _ I h) fun _ s1 h1 => thn h1 fun _ s2 h2 => ?_))
  obtain ⟨it, fp, tn, J, H2, rfl, I2, T, t2, f2, q⟩ := h2
  have freeD : H2 s2.heap.objs.size = none := I2.hok.fresh (Nat.le_refl _)
  obtain ⟨W, ⟨m0, w0⟩, turn⟩ := q _ freeD
  refine wpAny_newObj_type (newEnv_comp ?_) (by show 0 ≤ sizeLine; decide)
  generalize eD : s2.heap.objs.size = D at *
  have kD : ∀ b o, s2.heap.get? b = some o → (s2.heap.push { cls := .type "list", data := .seq ([] : List Value).toArray }).get? b = some o := fun b o e => Heap.get?_push_of_some _ e
  have I3 : Inv X pins σ (upd H2 D (.lst [])) { s2 with heap := s2.heap.push { cls := .type "list", data := .seq ([] : List Value).toArray } } :=
    I2.laid (t' := s2.toks) kD (Nat.le_of_eq eD) ⟨Nat.zero_le _, [], 0, .nil, by rw [← eD]; exact Heap.get?_push_size _ rfl⟩
  have lt : ∀ b ∈ fp, b < s2.heap.objs.size := fun b hb => by
    obtain ⟨o, e, _⟩ := T.obj _ _ t2 b hb
    exact Heap.lt_size e
  have f3 : ∀ b ∈ fp, FpOk X pins (upd H2 D (.lst [])) b := fun b hb => ⟨by rw [upd_ne (Nat.ne_of_lt (by rw [← eD]; exact lt b hb))]; exact (f2 b hb).1, (f2 b hb).2⟩
  have t3 := T.keep _ _ _ t2 fun b _ o e => kD b o e
  have l3 : ∀ b ∈ fp, b < (s2.heap.push { cls := .type "list", data := .seq ([] : List Value).toArray }).objs.size := fun b hb => by
    rw [Heap.size_push]
    exact Nat.lt_succ_of_lt (lt b hb)
  generalize eH3 : upd H2 D (.lst []) = H3 at *
  generalize e3 : ({ s2 with heap := s2.heap.push { cls := .type "list", data := .seq ([] : List Value).toArray } } : Shared) = s3 at *
  have h3 : s3.heap = s2.heap.push { cls := .type "list", data := .seq ([] : List Value).toArray } := by rw [← e3]
  rw [← h3] at t3 l3
  have I4 := block_start I3 ok hN fun b hb => ⟨f3 b hb, l3 b hb⟩
  have k4 : ∀ b o, s3.heap.get? b = some o → (pushCells (s3.heap.push { cls := .type "dict", data := .dict #[] }) scope.names).get? b = some o := fun b o e => pushCells_keeps _ _ _ _ (Heap.get?_push_of_some _ e)
  have I5 := blk_invH I3 I4 k4 rfl
  have t4 := T.keep _ _ _ t3 fun b _ o e => k4 b o e
  have loop : codeAny (model X.prog X.w) X.A (.compLoop (.ListComp elt [⟨tg, iter, ifs, 0⟩] scope pos) 0 (.ref it) (.ref D) (compEnvC scope (cellsFrom (s3.heap.objs.size + 1) scope.names (cloFrom X.env.cells scope.names [])) s3.heap.objs.size X.env))
      (compPost (model X.prog X.w) X.A X.xe (some (assign (.Name y py) X.env)) (fun _ s' => wpAny (model X.prog X.w) X.A (pure ()) (fun _ s' => wpAny (model X.prog X.w) X.A (pure Flow.next) (SP X pins Dd) X.xe s') X.xe s') (.ref D) s3.heap.objs.size)
      { s3 with heap := pushCells (s3.heap.push { cls := .type "dict", data := .dict #[] }) scope.names } := by
    refine lc_loopH hc T (hg _ _ _ _ _) (ht _ _ _ _ _) (he _ _ _ _ _) (fun b hb p hp => (f3 b hb).2.2.2.2.2 p (List.mem_append_left _ hp)) I5 t4 (fun b hb => (f3 b hb).1) w0 turn fun s6 H6 I6 q6 => ?_
    have I7 : Inv X pins σ H6 s6 := I3.call' (ch := fp) I6.os I6.base I6.hok I6.bare fun b hb => ⟨(f3 b hb).2.2.2.1, (f3 b hb).2.1, (f3 b hb).2.2.2.2.1, (f3 b hb).2.2.2.2.2⟩
    obtain ⟨m, ns, _⟩ := I6.loc
    have F := I3.fpOk (H' := H6) (Nat.le_refl _) I6.free
    show wpAny _ _ (assign (.Name y py) X.env (.ref D)) _ _ _
    refine wpAny_assign_Name (store_ok2 (v := V.ref D) I7 hN hy (.inl hyl) rfl (fun s8 I8 ⟨a, sb, ha⟩ => ?_) (.inr hyl))
    have nC : s3.heap.objs.size ≠ a := by
      rcases ha with z | z
      · rw [z]
        exact F.2.1
      · exact fun e => F.2.2.2.2.1 y a z e.symm
    refine ⟨m, Heap.Ns.sameBut ns sb nC, fun h9 sb9 => wpAny_pure (wpAny_pure ⟨_, H6, I8.turned (t' := s8.toks) (fun b o n e => (sb9.2 b n).trans e) F.1 F.2.1 F.2.2.2.1 F.2.2.2.2.1 F.2.2.2.2.2, q6⟩)⟩
  exact codeAny_compStart_list loop (T.self X.A 0 _ _ _ t4 loop)
end
end Mc
/-! own exceptions whose context is None; defs that are called with the handled exception -/
namespace Mc
open PySem PySem.Spec PyProof.Rows L2 HotX L2H
section
variable {X : Cx} {C fI : Addr} {k : Nat} {fd : FuncData} {ps : List Str} {sp : Sp} {x : Str} {e : Expr} {es : List Expr} {ta : TA} {p pos : Pos}
/-- C(e, ..), with what its object bears behind it -/
theorem pmkN (T : OexC X.K C) (iC : PySem.W.findIn X.K (.ref C) "__init__" = some (some (.ref fI))) (tI : PySem.W.typeIn X.K (.ref fI) = some (.type "function")) (F1 : FnOk X.prog X.w X.K X.mg X.base CX0 k fI fd ps sp) (hr : Room (k + 1) X.A) (hb : Binds X.K fd ps [])
    (hg : Gl X x) (hm : X.mg x = some (.ref C)) (ha : PA X (e :: es) ta)
    (hdb : (x == ("__debug__" : Str)) = false := by decide) (he : starEach (e :: es) X.env = (false, eval e X.env) :: starEach es X.env := by rfl) (hpl : (backTo pos (starEach es X.env)).any (·.1) = false := by rfl) :
    L2N.PMk X (.Call (.Name x p) (e :: es) [] pos) (tMkO C sp [] ta) := by
  intro pins s σ H Q I h
  obtain ⟨nm, q, N, bs, bm, sn, sub, ab, col, dd, k0, k1, k2, k3, k5, hC, hbm⟩ := T.cls
  refine wpAny_Call_Name_kw (ld_glob I hg hm (PySem.W.callWith_K (h₀ := X.base) I.ok.mod.kin T.kC (thn (ha.run pos pins _ σ H _ I h) fun us s1 ⟨vs, H1, I1, r1, hz, q1⟩ => ⟨I1.kIn, ?_⟩) he hpl) hdb)
  obtain ⟨hp, g, dr, tk, os⟩ := s1
  generalize ea : hp.objs.size + 1 = a
  have la : hp.objs.size ≤ a := by
    rw [← ea]
    exact Nat.le_succ _
  have q2 := q1 a (I1.hok.fresh la)
  rw [List.append_nil] at q2
  have up : ∀ b o, hp.get? b = some o → ((hp.push (PySem.W.kdv_tup us)).push (PySem.HandSPX.excO C hp.objs.size)).get? b = some o := fun b o z => Heap.get?_push_of_some _ (Heap.get?_push_of_some _ z)
  have at_ : ((hp.push (PySem.W.kdv_tup us)).push (PySem.HandSPX.excO C hp.objs.size)).get? a = some (PySem.HandSPX.excO C hp.objs.size) := by
    rw [← ea]
    heap_get
  have I2 := I1.laid (t' := tk) (a := a) (o := exo a C none) (h' := (hp.push (PySem.W.kdv_tup us)).push (PySem.HandSPX.excO C hp.objs.size)) up la (exo_ok at_)
  have r2 : Vals (V.ref a :: vs) (Value.ref a :: us) := .cons rfl r1
  have len : (Value.ref a :: us ++ []).length = ps.length := by
    rw [List.append_nil, ← r2.length, F1.len _ _ _ _ q2]
  have fits : us.length ≤ sizeLine := by
    rw [← Paired.length r1, sizeLine_eq]
    omega
  have bd := hb _ (Value.ref a :: us) I2.kIn len
  rw [List.append_nil] at bd
  have body := F1.run _ X.stack _ _ ⟨Value.ref a :: us, []⟩ (Value.ref a :: us) _ _ (fun _ _ _ => False) (hr.make C us []) (I2.env0.make C us []) bd r2 q2
  subst ea
  show wpAny _ _ (call (.ref C) us) _ _ _
  refine wpAny_call (PySem.HandSPX.call_own PySem.F.excBase_ValueError (fun Y => PySem.HandSPX.refsVE_contains Y bm hbm) (I1.kIn _ _ hC) (PySem.W.looks_findIn I1.kIn iC) (fun self => PySem.W.bind_fn I1.kIn self tI) fits (codeAny_mono body fun r s' z => ?_))
  match r, z with
  | .error er, z => exact z.elim
  | .ok .next, z => exact z.elim
  | .ok .brk, z => exact z.elim
  | .ok .cont, z => exact z.elim
  | .ok (.ret u), z =>
    obtain ⟨v, H2, os2, bare2, un2, hok2, rv, rfl, d, fs, e1, e2, n1, fin⟩ := z
    obtain ⟨h2, g2, d2, t2, os'⟩ := s'
    obtain ⟨t0, G, J, kG, nG, hoe, na⟩ := mk_end0 (d2 := d2) (t2 := t2) I1 la up un2 hok2 os2 bare2 e1 e2 n1
    exact ⟨rv, hp.objs.size + 1, _, _, ⟨G, g2, d2, t2, os'⟩, _, .ref C, some d, rfl, J, kG, nG, hoe, ⟨rfl, rfl, fun ws hw => by cases hw; rfl⟩, rfl, rfl, na, rfl, bare2, raises_own T.exC T.tyC, fin⟩
end
/-! ### a def that is called with the exception that is handled -/
/-- p: the handled exception's address and object -/
structure FnE (P : Program) (w : World) (K : PySem.W.Frag) (mg : Str → Option Value) (base : Heap) (k : Nat) (f : Addr) (fd : FuncData) (ps : List Str) (sp : Addr × Obj → Sp) : Prop where
  len : ∀ p vs H Q E, sp p vs H Q E → vs.length = ps.length
  run : ∀ (A : Around) (outer : List Env) (s : Shared) (H : Hp) (us : List Value) (vs : List V) (Q : VK) (E : XK) (p : Addr × Obj), RoomH k A → Hot1 A p → PinOk outer H s p → Env0 P w K mg base A outer s H → BindsTo s fd ⟨us, []⟩ (ps.zip us) → Vals vs us → sp p vs H Q E →
    codeAny (model P w) A (.call (.ref f) ⟨us, []⟩) (CR CX0 outer P w H s Q E) s
section
variable {P : Program} {w : World} {K : PySem.W.Frag} {mg : Str → Option Value} {base : Heap} {k : Nat} {f : Addr} {name qual : Str} {params : Arguments} {body : List Stmt} {scope : Scope} {doc pm : Value} {N ps : List Str}
theorem fnE_of {dV kV cdv ct oc : Value} {an od : Option Addr} {osl : Array (Option Value)} {sp : Addr × Obj → Sp} (lk : K.lookup f = some ⟨oc, od, .func (PySem.W.fnOf name qual params body scope dV kV doc pm an cdv ct), osl⟩) (hcd : PySem.W.codeIn K cdv qual = true) (S : FnScope N ps scope)
    (len : ∀ p vs H Q E, sp p vs H Q E → vs.length = ps.length)
    (main : ∀ (A : Around) (outer : List Env) (s : Shared) (H : Hp) (vs : List V) (Q : VK) (E : XK) (p : Addr × Obj), Hot1 A p → RoomH k (A.deeper (envOfC qual scope s.heap.objs.size f cdv)) → sp p vs H Q E →
      ∃ t, PSs (cxH CX0 P w K mg base N qual scope f cdv A outer s H E p) body t ∧ t { nx := fun _ H' => Q .non H', rt := Q } (L2.start N vs) H) :
    FnE P w K mg base (k + 1) f (PySem.W.fnOf name qual params body scope dV kV doc pm an cdv ct) ps sp := by
  refine ⟨len, fun A outer s H us vs Q E p hr hot pin e0 hb r hsp => ?_⟩
  have keepB : ∀ b o, base.get? b = some o → s.heap.get? b = some o := fun b o e => (e0.bs b o e).1
  have KI : K.In s.heap := e0.mod.kin.keeps keepB
  have places : ∀ y ∈ ps.zip us, scope.names.lookup y.1 = some .local ∨ (scope.names.lookup y.1 = some .cell ∧ ((cellsFrom (s.heap.objs.size + 1) scope.names []).lookup y.1).isSome = true) := fun y hy =>
    (S.par y.1 (List.of_mem_zip (a := y.1) (b := y.2) hy).1).imp id fun q => ⟨q, PySem.W.cellsFrom_some _ _ _ (.inl q)⟩
  refine codeAny_call_function hr.depth (KI _ _ lk) rfl S.co S.gen rfl (PySem.W.codeRec_of KI hcd) (hb _ _ _ _ (wpAny_newFunctionEnv_cells S.kind places fun env ee s1 made => ?_))
  subst ee
  refine ⟨(e0.mod.nolimit.keeps keepB).keeps made.toInCall.keep, codeAny_func ?_⟩
  obtain ⟨t, ht, go⟩ := main A outer s H vs Q E p hot (hr.deeper _) hsp
  refine wpAny_mono (ht.run [] s1 (L2.start N vs) H _ (inv_startH (E := E) S pin e0 (len _ _ _ _ _ hsp) r made) go) (fun fl s2 z => ?_) fun _ _ z => z
  match fl, z with
  | .ret u, ⟨v, σ2, H2, J, rv, q⟩ => exact ⟨v, H2, J.os, J.bare, J.base, J.hok, rv, q⟩
  | .next, ⟨σ2, H2, J, q⟩ => exact ⟨.non, H2, J.os, J.bare, J.base, J.hok, rfl, q⟩
  | .brk, ⟨_, _, _, q⟩ => exact q.elim
  | .cont, ⟨_, _, _, q⟩ => exact q.elim
end
section
variable {X : Cx} {k : Nat} {f : Addr} {fd : FuncData} {ps : List Str} {x : Str} {e : Expr} {es : List Expr} {t : TA} {q pos : Pos} {p : Addr × Obj} {sp : Addr × Obj → Sp} {spS : Sp}
/-- f(e, ..) within a suite -/
theorem pe_callE (F : FnE X.prog X.w X.K X.mg X.base k f fd ps sp) (imp : ∀ vs H Q E, spS vs H Q E → sp p vs H Q E) (hr : RoomH k X.A) (hot : Hot1 X.A p) (hp : p ∈ X.pn) (hg : Gl X x) (hm : X.mg x = some (.ref f)) (hk : PySem.W.keepIn X.K (.ref f) = true) (hb : Binds X.K fd ps []) (ha : PA X (e :: es) t)
    (hdb : (x == ("__debug__" : Str)) = false := by decide) (he : starEach (e :: es) X.env = (false, eval e X.env) :: starEach es X.env := by rfl) (hpl : (backTo pos (starEach es X.env)).any (·.1) = false := by rfl) :
    PE X (.Call (.Name x q) (e :: es) [] pos) (tCallS spS (fun _ => E0) t) := by
  refine ⟨fun pins s σ H Q I h => wpAny_Call_Name_kw (ld_glob I hg hm (PySem.W.callWith_K (h₀ := X.base) I.ok.mod.kin hk (thn (ha.run pos pins _ σ H _ I h) fun us s1 ⟨vs, H1, I1, r1, z0⟩ => ⟨I1.kIn, ?_⟩) he hpl) hdb)⟩
  have z := imp _ _ _ _ z0
  have P := I1.pin p (List.mem_append_left _ hp)
  have pin : PinOk X.stack H1 s1 p := ⟨P.1, P.2.1, fun hm2 => (List.mem_cons.mp (I1.stkSub p.1 hm2)).elim P.2.2.1 P.2.2.2.1, P.2.2.2.2⟩
  have b2 := hb s1 us I1.kIn (by rw [List.append_nil, ← r1.length]; exact F.len _ _ _ _ _ z)
  rw [List.append_nil] at b2
  refine wpAny_call (codeAny_mono (F.run X.A X.stack s1 H1 us vs Q E0 p hr hot pin I1.env0 b2 r1 z) fun r s2 y => ?_)
  match r, y with
  | .error er, y => exact y.elim
  | .ok (.ret u), y => exact I1.after y
  | .ok .next, y => exact y.elim
  | .ok .brk, y => exact y.elim
  | .ok .cont, y => exact y.elim
theorem hot_suite {A : Around} {a : Addr} {oe : Obj} {cls : Value} {d : Option Addr} (hz : L2N.Zn cls d oe) (hf : ∃ vs, oe.data = .fields vs) : Hot1 (A.mark (some (.ref a))) (a, oe) := by
  obtain ⟨vs, e⟩ := hf
  exact ⟨rfl, vs, e, hz.2.2 vs e⟩
theorem hot_data {A : Around} {a : Addr} {oe : Obj} (h : Hot1 A (a, oe)) : ∃ vs, oe.data = .fields vs := h.2.imp fun _ z => z.1
end
section
variable {K : PySem.W.Frag} {x qual : Str} {params : Arguments} {body : List Stmt} {scope : Scope} {dvs : List V} {kws : List (Str × V)} {f : Addr} {fd : FuncData} {P : Program} {w : World} {mg : Str → Option Value} {base : Heap}
theorem okE {N ps : List Str} {k : Nat} {sp : Addr × Obj → Sp} (F : FunD K x qual params body scope dvs kws f fd) (S : FnScope N ps scope) (len : ∀ p vs H Q E, sp p vs H Q E → vs.length = ps.length)
    (main : ∀ (cdv : Value) (A : Around) (outer : List Env) (s : Shared) (H : Hp) (vs : List V) (Q : VK) (E : XK) (a : Addr) (oe : Obj), Hot1 A (a, oe) → RoomH k (A.deeper (envOfC qual scope s.heap.objs.size f cdv)) → sp (a, oe) vs H Q E →
      ∃ t, PSs (cxH CX0 P w K mg base N qual scope f cdv A outer s H E (a, oe)) body t ∧ t { nx := fun _ H' => Q .non H', rt := Q } (L2.start N vs) H) : FnE P w K mg base (k + 1) f fd ps sp := by
  obtain ⟨oc, od, dV, kV, doc, pm, an, cdv, ct, osl, rfl, lk, hcd, _, _⟩ := F.ex
  exact fnE_of lk hcd S len fun A outer s H vs Q E p hot hr hsp => main cdv A outer s H vs Q E p.1 p.2 hot hr hsp
end
/-- nothing leaves: such an exception is not in the air -/
theorem takesN0 {X : Cx} : L2N.Takes X (fun _ _ _ _ => False) := fun _ _ ⟨_, _, _, _, _, _, _, _, _, _, _, _, _, _, _, _, z⟩ => z.elim
end Mc
/-! texts turned round, repeated, indexed; calls with keywords in a try; numbers with one text only -/
namespace Mc
open PySem PySem.Spec PyProof.Rows L2
/-! ### texts of which only the signs and the length are known -/
def Of (z : Str) (n : Nat) (u : Str) : Prop := u.length ≤ n ∧ ∀ c ∈ u.cps.toList, c ∈ z.cps.toList
structure TkO (n : Nat) (u : Str) : Prop where
  so : PyData.strOk u = true
  le : u.length ≤ n
theorem so_all {u : Str} : PyData.strOk u = true ↔ ∀ c ∈ u.cps.toList, PyData.strOk ⟨#[c]⟩ = true := by
  unfold PyData.strOk
  rw [← Array.all_toList, List.all_eq_true]
  constructor
  · intro h c hc
    have := h c hc
    simpa using this
  · intro h c hc
    have := h c hc
    simpa using this
theorem so_of {z u : Str} (h : ∀ c ∈ u.cps.toList, c ∈ z.cps.toList) (hz : PyData.strOk z = true) : PyData.strOk u = true := so_all.mpr fun c hc => so_all.mp hz c (h c hc)
theorem Of.tk {z u : Str} {m n : Nat} (h : Of z n u) (hz : TkO m z) : TkO n u := ⟨so_of h.2 hz.so, h.1⟩
theorem TkO.mono {u : Str} {m n : Nat} (h : TkO m u) (hl : m ≤ n) : TkO n u := ⟨h.so, Nat.le_trans h.le hl⟩
theorem TkO.app {u v : Str} {m n : Nat} (h : TkO m u) (h2 : TkO n v) : TkO (m + n) (u ++ v) := ⟨so_app h.so h2.so, by rw [PySem.Str.length_append]; exact Nat.add_le_add h.le h2.le⟩
theorem TkO.lit {s : String} {n : Nat} (h : (Str.ofString s).length ≤ n) : TkO n (Str.ofString s) := ⟨so_lit s, h⟩
theorem TkO.num {i : Int} (h : i.natAbs < 2 ^ 200) : TkO 201 (iT i) := ⟨so_int i, iT_len h⟩
theorem cut_of (z : Str) (lo hi : Option Int) : Of z z.length (cutS z lo hi) := ⟨cutS_length z lo hi, fun c hc => by
  unfold cutS at hc
  exact List.mem_of_mem_drop (List.mem_of_mem_take hc)⟩
theorem TkO.cut {z : Str} {n : Nat} (h : TkO n z) (lo hi : Option Int) : TkO n (cutS z lo hi) := ((cut_of z lo hi).tk h).mono h.le
theorem TkO.one {z : Str} {n c : Nat} (h : TkO n z) (hc : c ∈ z.cps.toList) : TkO 1 ⟨#[c]⟩ := ⟨so_all.mp h.so c hc, Nat.le_refl 1⟩
section
variable {X : Cx} {σ : L2.St} {H : Hp} {Q : VK} {te : TE}
/-- text[i] -/
theorem st_ixS {z : Str} {i : Int} {c : Nat} (hz : z.length ≤ 100000) (h : atI z.cps.toList i = some c) (q : Q (.str ⟨#[c]⟩) H) : rIxS (.str z) (.int i) H Q := ⟨z, i, c, rfl, rfl, Nat.le_trans hz (by decide), h, q⟩
theorem st_ixSm {z : Str} {i : Int} (hz : z.length ≤ 100000) (h0 : 0 ≤ i) (h1 : i < z.length) (q : ∀ c, c ∈ z.cps.toList → Q (.str ⟨#[c]⟩) H) : rIxS (.str z) (.int i) H Q := by
  have e : z.cps.toList.length = z.length := Array.length_toList
  have hl : i.toNat < z.cps.toList.length := by omega
  have h := atI_nat (xs := z.cps.toList) (j := i.toNat) (v := z.cps.toList[i.toNat]) (List.getElem?_eq_getElem hl)
  rw [Int.toNat_of_nonneg h0] at h
  exact st_ixS hz h (q _ (List.getElem_mem hl))
/-- sign not in text -/
def rNotInC : V → V → Hp → VK → Prop := fun x y H Q => ∃ (c : Nat) (z : Str), x = .str ⟨#[c]⟩ ∧ y = .str z ∧ Q (.bl (!decide (c ∈ z.cps.toList))) H
theorem op_notInC : OpR X (compareOp .NotIn) rNotInC := op_notIn_sign
theorem st_notInC {c : Nat} {z : Str} (q : Q (.bl (!decide (c ∈ z.cps.toList))) H) : rNotInC (.str ⟨#[c]⟩) (.str z) H Q := ⟨c, z, rfl, rfl, q⟩
/-- text * k -/
def rMulS : V → V → Hp → VK → Prop := fun x y H Q => ∃ (z : Str) (k : Int), x = .str z ∧ y = .int k ∧ 0 ≤ k ∧ k ≤ 10000 ∧ z.length ≤ 100 ∧ ∀ u, Of z (z.length * k.toNat) u → Q (.str u) H
theorem mem_rep {c : Array Nat} {a : Nat} : ∀ (k : Nat) (acc : Array Nat), a ∈ ((List.replicate k c).foldl (· ++ ·) acc).toList → a ∈ acc.toList ∨ a ∈ c.toList
  | 0, acc, h => .inl h
  | k + 1, acc, h => by
    rw [List.replicate_succ, List.foldl_cons] at h
    rcases mem_rep k (acc ++ c) h with h | h
    · rw [Array.toList_append] at h
      exact List.mem_append.mp h
    · exact .inr h
theorem op_mulS : OpR X (binaryOp .Mult) rMulS := by
  rintro pins s σ H x y v u Q I rx ry ⟨z, k, rfl, rfl, k0, k1, hz, q⟩
  obtain ⟨t, rfl⟩ := rx
  obtain ⟨t2, rfl⟩ := ry
  have hk : k = (k.toNat : Int) := (Int.toNat_of_nonneg k0).symm
  have hm : z.length * k.toNat ≤ 100 * 10000 := Nat.mul_le_mul hz (by omega)
  refine PySem.P.mul_str (by rw [decide_eq_false (by omega), decide_eq_false (by omega)]; rfl) (fun h1 _ => ?_) (fun _ _ => ?_) ?_
  · have a : (2 ^ 63 - 1) / (10000 : Int) ≤ (2 ^ 63 - 1) / k := by
      refine (Int.le_ediv_iff_mul_le (by omega)).mpr ?_
      have : (2 ^ 63 - 1) / (10000 : Int) * k ≤ (2 ^ 63 - 1) / 10000 * 10000 := Int.mul_le_mul_of_nonneg_left k1 (by decide)
      exact Int.le_trans this (by decide)
    have b : (100 : Int) ≤ (2 ^ 63 - 1) / 10000 := by decide
    omega
  · exact decide_eq_false (by rw [sizeLine_eq]; omega)
  · by_cases h1 : k < 1
    · rw [if_pos h1]
      have k00 : k.toNat = 0 := by omega
      refine ⟨by decide, .str Str.empty, H, I.tok _, ⟨_, rfl⟩, q _ ⟨by rw [k00]; exact Nat.le_refl 0, fun c hc => by cases hc⟩⟩
    · rw [if_neg h1]
      by_cases h2 : (k == 1 || z.length == 0) = true
      · rw [if_pos h2]
        refine ⟨.str z, H, I, ⟨_, rfl⟩, q _ ⟨?_, fun c hc => hc⟩⟩
        exact Nat.le_mul_of_pos_right _ (by omega)
      · rw [if_neg h2]
        have hs : (Str.mk ((List.replicate k.toNat z.cps).foldl (· ++ ·) #[])).length = z.length * k.toNat := by
          show ((List.replicate k.toNat z.cps).foldl (· ++ ·) #[]).size = _
          rw [size_reps]
          show 0 + k.toNat * z.length = _
          rw [Nat.zero_add, Nat.mul_comm]
        refine ⟨by rw [hs, sizeLine_eq]; omega, .str _, H, I.tok _, ⟨_, rfl⟩, q _ ⟨Nat.le_of_eq hs, fun c hc => ?_⟩⟩
        rcases mem_rep _ _ hc with h | h
        · cases h
        · exact h
theorem st_mulS {z : Str} {k : Int} (k0 : 0 ≤ k) (k1 : k ≤ 10000) (hz : z.length ≤ 100) (q : ∀ u, Of z (z.length * k.toNat) u → Q (.str u) H) : rMulS (.str z) (.int k) H Q := ⟨z, k, rfl, rfl, k0, k1, hz, q⟩
/-- text[::-1]: its signs, as many as they were -/
def tTurnS (te : TE) : TE := fun σ H Q => te σ H fun x H1 => ∃ z : Str, x = .str z ∧ z.length ≤ 100000 ∧ ∀ u, Of z z.length u → Q (.str u) H1
theorem by_of (z : Str) (t : Int × Tok) (h : t.1 ≠ 0) : Of z z.length (Txt.sliceBy z none none t) := by
  refine ⟨PySem.Txt.sliceBy_le z none none t h, fun c hc => ?_⟩
  unfold Txt.sliceBy at hc
  split at hc
  · exact hc
  · have hm : c ∈ (slicePicked z none none (some t)).filterMap (z.cps[·]?) := hc
    obtain ⟨i, _, hi⟩ := List.mem_filterMap.mp hm
    exact Array.mem_toList_iff.mpr (Array.mem_of_getElem? hi)
theorem pe_turnS {e : Expr} {k : Nat} {q1 q2 q3 q4 : Pos} (he : PE X e te) :
    PE X (.Subscript e (.Slice none none (some (.UnaryOp .USub (.Constant (.int 1) k q1) q2)) q3) q4) (tTurnS te) := by
  constructor
  intro pins s σ H Q I h
  apply Subscript_
  apply thn (he.run pins s σ H _ I h)
  rintro v s1 ⟨x, H1, I1, r1, z, rfl, hz, q⟩
  obtain ⟨t, rfl⟩ := r1
  have neg : PO X (some (.UnaryOp .USub (.Constant (.int 1) k q1) q2)) (tPart (tUn (rU fun i => .int (-i)) (tC (.int 1)))) := po_some (pe_un un_neg pe_int)
  apply wpAny_Slice
  apply thn (po_none.run pins s1 σ H1 (fun o H2 => o = none ∧ H2 = H1) I1 ⟨rfl, rfl⟩)
  rintro a s2 ⟨_, _, I2, pa, rfl, rfl⟩
  apply thn (po_none.run pins s2 σ _ (fun o H3 => o = none ∧ H3 = _) I2 ⟨rfl, rfl⟩)
  rintro b s3 ⟨_, _, I3, pb, rfl, rfl⟩
  apply thn (neg.run pins s3 σ _ (fun o H4 => o = some (-1) ∧ H4 = _) I3 ⟨1, rfl, -1, rfl, rfl, rfl⟩)
  rintro c s4 ⟨_, _, I4, pc, rfl, rfl⟩
  cases pa
  cases pb
  cases pc with
  | int _ tm =>
  have I5 := I4.kept (t' := s4.toks) (h' := s4.heap.push { cls := .type "slice", data := .fields #[.none, .none, .int (-1) tm] }) fun _ _ z => Heap.get?_push_of_some _ z
  have ends := q _ (by_of z (-1, tm) (show (-1 : Int) ≠ 0 by decide))
  refine tail_any (ops := [.ref s4.heap.objs.size, .str z t]) (typeIs_str _ z t) PySem.F.slot_str_getitem.lookup ?_ (by with_unfolding_all rfl)
  refine wpAny_getItem_str_slice (l := none) (u := none) (st := some (-1, tm)) ⟨_, Heap.get?_push_size _ rfl, rfl, rfl⟩ rfl ?_
  have le := PySem.Txt.sliceBy_le z none none (-1, tm) (show (-1 : Int) ≠ 0 by decide)
  show Made.post (if _ then _ else _) _ _
  unfold Txt.sliceBy at ends le
  split
  · rename_i g
    rw [if_pos g] at ends
    exact ⟨.str z, _, I5, ⟨t, rfl⟩, ends⟩
  · rename_i g
    rw [if_neg g] at ends le
    exact ⟨Nat.le_trans le (Nat.le_trans hz (by decide)), .str _, _, I5.tok _, ⟨_, rfl⟩, ends⟩
theorem st_turnS (h : te σ H fun x H1 => ∃ z : Str, x = .str z ∧ z.length ≤ 100000 ∧ ∀ u, Of z z.length u → Q (.str u) H1) : tTurnS te σ H Q := h
theorem st_turn1 {z : Str} {R : Str → Prop} (hz : z.length ≤ 100000) (h : ∀ u, Of z z.length u → R u) : ∃ y : Str, V.str z = .str y ∧ y.length ≤ 100000 ∧ ∀ u, Of y y.length u → R u := ⟨z, rfl, hz, h⟩
end
/-! ### f(k = v, ..) in a try -/
def tCallT (m : Nat) (sp : Sp) (gV : List V → List V → List V) (E : L2.St → XK) (tk : TA) : TE := fun σ H Q => tk σ H fun zs H2 => zs.length = m ∧ sp (gV [] zs) H2 Q (E σ)
section
variable {X : Cx} {CX : CXT} {k : Nat} {f : Addr} {fd : FuncData} {ps ks : List Str} {sp : Sp} {E : L2.St → XK} {x : Str} {p pos : Pos} {kws : List Keyword} {tk : TA}
variable {g : List Value → List Value → List Value} {gV : List V → List V → List V}
theorem pe_callT (F : FnOk X.prog X.w X.K X.mg X.base CX k f fd ps sp) (hr : Room k X.A) (hg : Gl X x) (hm : X.mg x = some (.ref f))
    (hk : PySem.W.keepIn X.K (.ref f) = true) (hb : KBn X.K fd ps 0 ks g gV) (hx : ∀ σ, PassesAt CX X σ (E σ)) (hkw : PK X kws tk)
    (hall : (backToKw pos (keywordEach kws X.env)).all (·.1.isSome) = true := by rfl)
    (hks : (backToKw pos (keywordEach kws X.env)).filterMap (·.1) = ks := by rfl)
    (hdb : (x == ("__debug__" : Str)) = false := by decide)
    (hpl : ((backTo pos (starEach [] X.env)).any (·.1) || (backToKw pos (keywordEach kws X.env)).any (·.1.isNone)) = false := by rfl) :
    PE X (.Call (.Name x p) [] kws pos) (tCallT ks.length sp gV E tk) := by
  constructor
  intro pins s σ H Q I h
  apply wpAny_Call_Name_kw
  refine ld_glob I hg hm ?_ hdb
  apply PySem.W.callWith_KW0 (h₀ := X.base) I.ok.mod.kin hk hall ?_ hpl
  apply thn (hkw.run pos pins s σ H _ I h)
  rintro ws s2 ⟨zs, H2, I2, rz, l2, q2⟩
  refine ⟨I2.kIn, ?_⟩
  rw [hks]
  have bound := hb.to s2 [] ws I2.kIn rfl (rz.length.symm.trans l2)
  have vals := hb.rel .nil rz
  refine wpAny_call (codeAny_mono (F.run X.A X.stack s2 H2 _ _ _ Q (E σ) hr I2.env0 bound vals q2) fun r s' z => ?_)
  match r, z with
  | .error e, z => exact hx σ pins H2 s2 e s' I2 z
  | .ok (.ret u), z => exact I2.after z
  | .ok .next, z => exact z.elim
  | .ok .brk, z => exact z.elim
  | .ok .cont, z => exact z.elim
theorem st_callT {m : Nat} {σ : L2.St} {H : Hp} {Q : VK} (h : tk σ H fun zs H2 => zs.length = m ∧ sp (gV [] zs) H2 Q (E σ)) : tCallT m sp gV E tk σ H Q := h
end
end Mc
/-! a date's text: the program's reading of it, and a reading word by word; they agree at every text -/
namespace Mc
open PySem PySem.Spec PyProof.Rows L2
/-! ### digits without zeros in front -/
theorem val_snoc (D : List Nat) (c : Nat) : NumText.digitsVal (D ++ [c]) = NumText.digitsVal D * 10 + (c - 48) := by
  unfold NumText.digitsVal
  rw [List.foldl_append]
  rfl
theorem head_app {A B : List Nat} (h : A ≠ []) : (A ++ B).head? = A.head? := by
  match A, h with
  | x :: r, _ => rfl
theorem num_head {n : Nat} (h : 0 < n) : (TL.numL n).head? ≠ some 48 := by
  induction n using Nat.strongRecOn with
  | _ n ih =>
    by_cases h1 : n < 10
    · rw [TL.numL_lt h1]
      intro z
      have := Option.some.inj z
      omega
    · rw [TL.numL_step (by omega), head_app (TL.numL_ne _)]
      exact ih (n / 10) (by omega) (by omega)
theorem snoc_cases (D : List Nat) : D = [] ∨ ∃ A c, D = A ++ [c] := by
  rcases List.eq_nil_or_concat D with h | ⟨A, c, h⟩
  · exact .inl h
  · exact .inr ⟨A, c, by rw [h, List.concat_eq_append]⟩
theorem num_back : ∀ (n : Nat) (D : List Nat), D.length = n → NumText.AllDigits D → D ≠ [] → D.head? ≠ some 48 → TL.numL (NumText.digitsVal D) = D ∧ 0 < NumText.digitsVal D
  | 0, D, hl, _, h1, _ => absurd (List.length_eq_zero_iff.mp hl) h1
  | n + 1, D, hl, hd, h1, h2 => by
    rcases snoc_cases D with rfl | ⟨A, c, rfl⟩
    · exact absurd rfl h1
    have hc := hd c (List.mem_append_right _ (List.mem_singleton_self c))
    rw [val_snoc]
    by_cases hA : A = []
    · subst hA
      have hc0 : c ≠ 48 := fun z => h2 (by rw [z]; rfl)
      have e : NumText.digitsVal [] * 10 + (c - 48) = c - 48 := by
        show 0 * 10 + _ = _
        omega
      rw [e, TL.numL_lt (by omega)]
      exact ⟨by rw [show 48 + (c - 48) = c by omega]; rfl, by omega⟩
    · have hh : A.head? ≠ some 48 := fun z => h2 (by rw [head_app hA]; exact z)
      obtain ⟨i1, i2⟩ := num_back n A (by rw [List.length_append, List.length_singleton] at hl; omega) (fun x hx => hd x (List.mem_append_left _ hx)) hA hh
      refine ⟨?_, by omega⟩
      rw [TL.numL_step (by omega), show (NumText.digitsVal A * 10 + (c - 48)) / 10 = NumText.digitsVal A by omega, show (NumText.digitsVal A * 10 + (c - 48)) % 10 = c - 48 by omega, i1, show 48 + (c - 48) = c by omega]
theorem num_iff {D : List Nat} (hd : NumText.AllDigits D) (h1 : D ≠ []) : TL.numL (NumText.digitsVal D) = D ↔ (D.head? = some 48 → D = [48]) := by
  constructor
  · intro e hh
    by_cases h0 : NumText.digitsVal D = 0
    · rw [h0] at e
      rw [← e]
      rfl
    · have := num_head (n := NumText.digitsVal D) (by omega)
      rw [e] at this
      exact absurd hh this
  · intro h
    by_cases hh : D.head? = some 48
    · rw [h hh]
      rfl
    · exact (num_back _ D rfl hd h1 hh).1
theorem val_zero {D : List Nat} (hd : NumText.AllDigits D) (h1 : D ≠ []) (h0 : NumText.digitsVal D = 0) : D.head? = some 48 := Classical.byContradiction fun hh => by
  have := (num_back _ D rfl hd h1 hh).2
  omega
/-! ### a word's number, if the word is the number's own text -/
/-- the law's reading: m says whether a minus may stand in front -/
def cutM (m : Bool) (l : List Nat) : List Nat := if m = true ∧ l.head? = some 45 then l.drop 1 else l
def lnT (m : Bool) (u : Str) : Option Int :=
  if okD (cutM m u.cps.toList) = true ∧ ((cutM m u.cps.toList).head? = some 48 → u.cps.toList = [48]) then
    some (if u.cps.toList.head? = some 45 then 0 - ((NumText.digitsVal (cutM m u.cps.toList) : Nat) : Int) else ((NumText.digitsVal (cutM m u.cps.toList) : Nat) : Int))
  else none
theorem zero_iff {u : Str} : u = ("0" : Str) ↔ u.cps.toList = [48] := by
  constructor
  · rintro rfl
    rfl
  · intro h
    exact str_eq h
theorem iT_iff {k : Int} {u : Str} : iT k = u ↔ u.cps.toList = if k < 0 then 45 :: TL.numL k.natAbs else TL.numL k.natAbs := by
  rw [← cps_iT]
  constructor
  · rintro rfl
    rfl
  · intro h
    exact str_eq h.symm
theorem dig_no {D : List Nat} (h : okD D = true) (c : Nat) (hc : c < 48 ∨ 57 < c) : D.head? ≠ some c := fun z => by
  obtain ⟨h1, h2, _⟩ := okD_all h
  match D, z, h1 with
  | x :: r, z, h1 =>
    have e : x = c := Option.some.inj z
    have := h1 x (List.mem_cons_self ..)
    omega
theorem lnT_iff (m : Bool) (u : Str) (k : Int) : lnT m u = some k ↔ numT u = some k ∧ iT k = u ∧ (m = false → 0 ≤ k) := by
  have cps := cps_iT k
  unfold lnT numT
  rw [iT_iff]
  generalize u.cps.toList = l
  by_cases h45 : l.head? = some 45
  · obtain ⟨D, rfl⟩ : ∃ D, l = 45 :: D := by
      match l, h45 with
      | x :: r, h45 => exact ⟨r, by rw [Option.some.inj h45]⟩
    have c1 : cutSg (45 :: D) = D := rfl
    have v1 : valT (45 :: D) = -((NumText.digitsVal D : Nat) : Int) := rfl
    rw [c1, v1, if_pos h45]
    cases m with
    | false =>
      have c2 : cutM false (45 :: D) = 45 :: D := rfl
      rw [c2, if_neg (fun z => dig_no z.1 45 (by omega) rfl)]
      constructor
      · intro z
        cases z
      · rintro ⟨z1, z2, z3⟩
        have := z3 rfl
        rw [if_neg (by omega)] at z2
        exact absurd (z2 ▸ List.mem_cons_self ..) (TL.numL_free (n := k.natAbs) (s := 45) (by omega))
    | true =>
      have c2 : cutM true (45 :: D) = D := rfl
      rw [c2]
      by_cases ok : okD D = true
      · obtain ⟨d1, d2, _⟩ := okD_all ok
        rw [if_pos ok]
        constructor
        · intro z
          split at z
          · rename_i g
            have hk := Option.some.inj z
            have hn : D.head? ≠ some 48 := fun z => by
              have := g.2 z
              cases this
            obtain ⟨b1, b2⟩ := num_back _ D rfl d1 d2 hn
            refine ⟨congrArg some (by omega), ?_, fun z => by cases z⟩
            rw [if_pos (by omega), show k.natAbs = NumText.digitsVal D by omega, b1]
          · cases z
        · rintro ⟨z1, z2, _⟩
          have hk := Option.some.inj z1
          have hn : D.head? ≠ some 48 := fun z => by
            by_cases kn : k < 0
            · rw [if_pos kn, show k.natAbs = NumText.digitsVal D by omega] at z2
              have e := (num_iff d1 d2).mp (List.cons.inj z2).2.symm z
              rw [e] at hk
              have : NumText.digitsVal [48] = 0 := rfl
              omega
            · rw [if_neg kn] at z2
              exact absurd (z2 ▸ List.mem_cons_self ..) (TL.numL_free (n := k.natAbs) (s := 45) (by omega))
          rw [if_pos ⟨ok, fun z => absurd z hn⟩]
          exact congrArg some (by omega)
      · rw [if_neg ok, if_neg fun z => ok z.1]
        constructor
        · intro z
          cases z
        · rintro ⟨z, _⟩
          cases z
  · have c2 : cutM m l = l := if_neg fun z => h45 z.2
    rw [c2, if_neg h45]
    by_cases h43 : l.head? = some 43
    · rw [if_neg fun z => dig_no z.1 43 (by omega) h43]
      constructor
      · intro z
        cases z
      · rintro ⟨_, z2, _⟩
        split at z2
        · rw [z2] at h45
          exact absurd rfl h45
        · have : 43 ∈ TL.numL k.natAbs := by
            rw [← z2]
            match l, h43 with
            | x :: r, h43 =>
              rw [Option.some.inj h43]
              exact List.mem_cons_self ..
          exact absurd this (TL.numL_free (by omega))
    · have sg : sgF l = false := by
        match l, h43, h45 with
        | [], _, _ => rfl
        | x :: r, h43, h45 =>
          have a : x ≠ 43 := fun z => h43 (by rw [z]; rfl)
          have b : x ≠ 45 := fun z => h45 (by rw [z]; rfl)
          show (decide (x = 43) || decide (x = 45)) = false
          rw [decide_eq_false a, decide_eq_false b]
          rfl
      have c1 : cutSg l = l := by
        unfold cutSg
        rw [sg, if_neg Bool.false_ne_true]
      have v1 : valT l = ((NumText.digitsVal l : Nat) : Int) := by
        unfold valT
        rw [if_neg h45, c1]
      rw [c1, v1]
      by_cases ok : okD l = true
      · obtain ⟨d1, d2, _⟩ := okD_all ok
        have ni := num_iff d1 d2
        rw [if_pos ok]
        constructor
        · intro z
          split at z
          · rename_i g
            have hk := Option.some.inj z
            refine ⟨z, ?_, fun _ => by omega⟩
            rw [if_neg (by omega), show k.natAbs = NumText.digitsVal l by omega]
            exact (ni.mpr g.2).symm
          · cases z
        · rintro ⟨z1, z2, _⟩
          have hk := Option.some.inj z1
          rw [if_neg (by omega), show k.natAbs = NumText.digitsVal l by omega] at z2
          rw [if_pos ⟨ok, ni.mp z2.symm⟩]
          exact z1
      · rw [if_neg ok, if_neg fun z => ok z.1]
        constructor
        · intro z
          cases z
        · rintro ⟨z, _⟩
          cases z
/-! ### a text and its parts -/
theorem pre_one (s c : Nat) (r : List Nat) : TL.pre [s] (c :: r) = (s == c) := by
  unfold TL.pre
  simp
  exact Bool.eq_iff_iff.mpr ⟨fun z => beq_iff_eq.mpr (eq_of_beq z).symm, fun z => beq_iff_eq.mpr (eq_of_beq z).symm⟩
theorem spl_ne (s : Nat) : ∀ (l acc : List Nat), TL.spl [s] 0 acc l ≠ []
  | [], acc => by
    rw [TL.spl_nil]
    simp
  | c :: r, acc => by
    cases h : TL.pre [s] (c :: r) with
    | true =>
      rw [TL.spl_hit h]
      simp
    | false =>
      rw [TL.spl_miss h]
      exact spl_ne s r _
theorem glue_spl (s : Nat) : ∀ (l acc : List Nat), TL.joinL [s] (TL.spl [s] 0 acc l) = acc ++ l
  | [], acc => by
    rw [TL.spl_nil, List.append_nil]
    rfl
  | c :: r, acc => by
    cases h : TL.pre [s] (c :: r) with
    | true =>
      rw [TL.spl_hit h]
      have e : s = c := by
        rw [pre_one] at h
        exact eq_of_beq h
      have ih := glue_spl s r []
      have ne := spl_ne s r []
      show TL.joinL [s] (acc :: TL.spl [s] 0 [] r) = _
      match TL.spl [s] 0 [] r, ne, ih with
      | q :: qs, _, ih =>
        show acc ++ ([s] ++ TL.joinL [s] (q :: qs)) = _
        rw [ih, e]
        rfl
    | false =>
      rw [TL.spl_miss h, glue_spl s r, List.append_assoc]
      rfl
theorem join_split {u y : Str} {s : Nat} (ey : TL.tl y = [s]) (hk : y.cps.all (· < 256) = true) : Txt.join y (Txt.split u y) = u := by
  refine str_eq ?_
  show TL.tl _ = TL.tl _
  rw [TL.join_eq, TL.tl_join, TL.split_spl _ y (by rw [ey]; simp) (TL.kind_ok hk), ey, glue_spl, List.nil_append]
/-! ### dates -/
def dt3 (y m d : Int) : Str := iT y ++ ("/" : Str) ++ iT m ++ ("/" : Str) ++ iT d
theorem dt3_join (y m d : Int) : dt3 y m d = Txt.join "/" ([y, m, d].map iT) := by
  refine str_eq ?_
  show TL.tl _ = TL.tl _
  rw [TL.join_eq, TL.tl_join]
  unfold dt3
  simp only [TL.tl_append, List.map_cons, List.map_nil, TL.joinL, List.append_assoc]
theorem free_sl {k : Int} : 47 ∉ (iT k).cps.toList := by
  have hn : 47 ∉ TL.numL k.natAbs := TL.numL_free (by omega)
  rw [cps_iT]
  split
  · intro z
    rcases List.mem_cons.mp z with e | z
    · omega
    · exact hn z
  · exact hn
theorem dt3_iff (u : Str) (y m d : Int) : dt3 y m d = u ↔ Txt.split u "/" = [iT y, iT m, iT d] := by
  constructor
  · rintro rfl
    rw [dt3_join]
    exact TL.split_join (s := 47) (S := []) (by decide +kernel) (by decide +kernel) (fun z => by cases z) fun p hp => by
      obtain ⟨k, _, rfl⟩ := List.mem_map.mp hp
      exact free_sl
  · intro e
    have j := join_split (u := u) (y := "/") (s := 47) (by decide +kernel) (by decide +kernel)
    rw [e] at j
    rw [dt3_join]
    exact j
/-- the program's reading -/
def rdP (u : Str) : Option (Int × Int × Int) := match (Txt.split u "/").map numT with
  | [some y, some m, some d] => if dateOk y m d = true ∧ dt3 y m d = u then some (y, m, d) else none
  | _ => none
/-- the law's -/
def rdL (u : Str) : Option (Int × Int × Int) := match Txt.split u "/" with
  | [a, b, c] => match lnT true a, lnT false b, lnT false c with
    | some y, some m, some d => if dateOk y m d = true then some (y, m, d) else none
    | _, _, _ => none
  | _ => none
theorem rdP_iff (u : Str) (y m d : Int) : rdP u = some (y, m, d) ↔ (Txt.split u "/" = [iT y, iT m, iT d] ∧ dateOk y m d = true ∧ numT (iT y) = some y ∧ numT (iT m) = some m ∧ numT (iT d) = some d) := by
  constructor
  · intro h
    unfold rdP at h
    split at h
    · rename_i y' m' d' e
      split at h
      · rename_i g
        have e2 := (dt3_iff u y' m' d').mp g.2
        have h3 : (y', m', d') = (y, m, d) := Option.some.inj h
        obtain ⟨rfl, rfl, rfl⟩ : y' = y ∧ m' = m ∧ d' = d := ⟨congrArg Prod.fst h3, congrArg (fun z => z.2.1) h3, congrArg (fun z => z.2.2) h3⟩
        rw [e2] at e
        simp only [List.map_cons, List.map_nil, List.cons.injEq, and_true] at e
        exact ⟨e2, g.1, e.1, e.2.1, e.2.2⟩
      · cases h
    · cases h
  · rintro ⟨e, ok, n1, n2, n3⟩
    have e2 := (dt3_iff u y m d).mpr e
    unfold rdP
    rw [e]
    simp only [List.map_cons, List.map_nil, n1, n2, n3]
    rw [if_pos ⟨ok, e2⟩]
theorem rdL_iff (u : Str) (y m d : Int) : rdL u = some (y, m, d) ↔ (Txt.split u "/" = [iT y, iT m, iT d] ∧ dateOk y m d = true ∧ numT (iT y) = some y ∧ numT (iT m) = some m ∧ numT (iT d) = some d) := by
  constructor
  · intro h
    unfold rdL at h
    split at h
    · rename_i a b c e
      split at h
      · rename_i y' m' d' e1 e2 e3
        split at h
        · rename_i g
          have h3 : (y', m', d') = (y, m, d) := Option.some.inj h
          obtain ⟨rfl, rfl, rfl⟩ : y' = y ∧ m' = m ∧ d' = d := ⟨congrArg Prod.fst h3, congrArg (fun z => z.2.1) h3, congrArg (fun z => z.2.2) h3⟩
          obtain ⟨a1, a2, _⟩ := (lnT_iff _ _ _).mp e1
          obtain ⟨b1, b2, _⟩ := (lnT_iff _ _ _).mp e2
          obtain ⟨c1, c2, _⟩ := (lnT_iff _ _ _).mp e3
          subst a2 b2 c2
          exact ⟨e, g, a1, b1, c1⟩
        · cases h
      · cases h
    · cases h
  · rintro ⟨e, ok, n1, n2, n3⟩
    have ok2 := of_decide_eq_true ok
    have e1 := (lnT_iff true (iT y) y).mpr ⟨n1, rfl, fun z => by cases z⟩
    have e2 := (lnT_iff false (iT m) m).mpr ⟨n2, rfl, fun _ => by omega⟩
    have e3 := (lnT_iff false (iT d) d).mpr ⟨n3, rfl, fun _ => by omega⟩
    unfold rdL
    rw [e]
    simp only [e1, e2, e3]
    rw [if_pos ok]
theorem rd_eq (u : Str) : rdL u = rdP u := by
  cases h : rdP u with
  | some x =>
    obtain ⟨y, m, d⟩ := x
    exact (rdL_iff u y m d).mpr ((rdP_iff u y m d).mp h)
  | none =>
    cases h2 : rdL u with
    | none => rfl
    | some x =>
      obtain ⟨y, m, d⟩ := x
      have := (rdP_iff u y m d).mpr ((rdL_iff u y m d).mp h2)
      rw [h] at this
      cases this
theorem rdP_len {u : Str} (h : (Txt.split u "/").length ≠ 3) : rdP u = none := by
  cases e : rdP u with
  | none => rfl
  | some x =>
    obtain ⟨y, m, d⟩ := x
    exact absurd (by rw [((rdP_iff u y m d).mp e).1]; rfl) h
/-! ### bounds -/
theorem val_lt {D : List Nat} (h : NumText.AllDigits D) : NumText.digitsVal D < 10 ^ D.length := by
  generalize hn : D.length = n
  induction n generalizing D with
  | zero =>
    rw [List.length_eq_zero_iff.mp hn]
    decide
  | succ n ih =>
    rcases snoc_cases D with rfl | ⟨A, c, rfl⟩
    · cases hn
    have hc := h c (List.mem_append_right _ (List.mem_singleton_self c))
    have i := ih (D := A) (fun x hx => h x (List.mem_append_left _ hx)) (by rw [List.length_append, List.length_singleton] at hn; omega)
    rw [val_snoc, Nat.pow_succ]
    omega
theorem ok_lt {D : List Nat} (h : okD D = true) : NumText.digitsVal D < 10 ^ 60 := by
  obtain ⟨h1, _, h3⟩ := okD_all h
  exact Nat.lt_of_lt_of_le (val_lt h1) (Nat.pow_le_pow_right (by decide) h3)
theorem numT_bd {u : Str} {k : Int} (h : numT u = some k) : k.natAbs < 10 ^ 60 := by
  unfold numT at h
  split at h
  · rename_i ok
    have b := ok_lt ok
    have e := Option.some.inj h
    unfold valT at e
    split at e <;> omega
  · cases h
theorem lnT_bd {m : Bool} {u : Str} {k : Int} (h : lnT m u = some k) : -1000000000000000000000000000000000000000000000000000000000000 ≤ k ∧ k ≤ 1000000000000000000000000000000000000000000000000000000000000 := by
  have b := numT_bd ((lnT_iff m u k).mp h).1
  have e60 : (10 : Nat) ^ 60 = 1000000000000000000000000000000000000000000000000000000000000 := by decide
  omega
theorem parts_le {s : Nat} : ∀ {ps : List (List Nat)}, (∀ p ∈ ps, p.length ≤ (TL.joinL [s] ps).length) ∧ ps.length ≤ (TL.joinL [s] ps).length + 1
  | [] => ⟨fun p hp => (by cases hp), by simp⟩
  | [p] => ⟨fun q hq => by
      rw [List.mem_singleton.mp hq]
      exact Nat.le_refl _, by simp⟩
  | p :: q :: r => by
    obtain ⟨i1, i2⟩ := parts_le (s := s) (ps := q :: r)
    have e : (TL.joinL [s] (p :: q :: r)).length = p.length + (1 + (TL.joinL [s] (q :: r)).length) := by
      show (p ++ ([s] ++ TL.joinL [s] (q :: r))).length = _
      rw [List.length_append, List.length_append]
      rfl
    rw [e]
    refine ⟨fun x hx => ?_, ?_⟩
    · rcases List.mem_cons.mp hx with rfl | hx
      · omega
      · have := i1 x hx
        omega
    · rw [List.length_cons]
      omega
theorem split_bd (u : Str) : (∀ p ∈ Txt.split u "/", p.length ≤ u.length ∧ ∀ c ∈ p.cps.toList, c ∈ u.cps.toList) ∧ (Txt.split u "/").length ≤ u.length + 1 := by
  have j := join_split (u := u) (y := "/") (s := 47) (by decide +kernel) (by decide +kernel)
  have e : TL.tl u = TL.joinL [47] ((Txt.split u "/").map TL.tl) := by
    have z := congrArg TL.tl j
    rw [TL.join_eq, TL.tl_join] at z
    exact z.symm
  have ul : u.length = (TL.tl u).length := (Array.length_toList (xs := u.cps)).symm
  obtain ⟨b1, b2⟩ := parts_le (s := 47) (ps := (Txt.split u "/").map TL.tl)
  rw [← e, ← ul] at b1
  rw [← e, ← ul, List.length_map] at b2
  have mem : ∀ (ps : List (List Nat)) (p : List Nat), p ∈ ps → ∀ c ∈ p, c ∈ TL.joinL [47] ps := by
    intro ps
    induction ps with
    | nil => intro p hp; cases hp
    | cons x r ih =>
      intro p hp c hc
      match r, ih with
      | [], _ =>
        rw [List.mem_singleton.mp hp] at hc
        exact hc
      | q :: qs, ih =>
        show c ∈ x ++ ([47] ++ TL.joinL [47] (q :: qs))
        rcases List.mem_cons.mp hp with rfl | hp
        · exact List.mem_append_left _ hc
        · exact List.mem_append_right _ (List.mem_append_right _ (ih p hp c hc))
  refine ⟨fun p hp => ⟨?_, fun c hc => ?_⟩, b2⟩
  · have := b1 (TL.tl p) (List.mem_map_of_mem hp)
    have pl : p.length = (TL.tl p).length := (Array.length_toList (xs := p.cps)).symm
    omega
  · have := mem _ (TL.tl p) (List.mem_map_of_mem hp) c hc
    rw [← e] at this
    exact this
theorem flat_num : ∀ os : List (Option Int), (os.map numV).all flatV = true
  | [] => rfl
  | o :: os => by
    rw [List.map_cons, List.all_cons, flat_num os]
    cases o <;> rfl
theorem in_num : ∀ os : List (Option Int), inV .non (os.map numV) = os.any (fun o => o.isNone)
  | [] => rfl
  | o :: os => by
    have h := in_num os
    simp only [inV] at h ⊢
    rw [List.map_cons, List.any_cons, List.any_cons, h]
    cases o <;> rfl
theorem in_mi {u : Str} : inV (.str (cutS u none (some 1))) [.str "-"] = decide (u.cps.toList.head? = some 45) := by
  have h := cps_head (z := u)
  generalize cutS u none (some 1) = a at h
  simp only [inV, List.any_cons, List.any_nil, Bool.or_false]
  show (("-" : Str) == a) = _
  by_cases c : u.cps.toList.head? = some 45
  · rw [decide_eq_true c, beq_iff_eq]
    refine str_eq ?_
    rw [h]
    match u.cps.toList, c with
    | x :: r, c =>
      rw [Option.some.inj c]
      rfl
  · rw [decide_eq_false c]
    refine beq_eq_false_iff_ne.mpr fun z => c ?_
    rw [← z] at h
    have h2 : [45] = u.cps.toList.take 1 := h
    match u.cps.toList, h2 with
    | x :: r, h2 =>
      cases h2
      rfl
section
variable {K : PySem.W.Frag} {H : Hp} {Q : VK}
/-- xs != [], texts -/
theorem st_neNilS {a b : Addr} {ss : List Str} (h : SqL K H a (ss.map V.str)) (hb : SqL K H b []) (ok : ∀ s ∈ ss, PyData.strOk s = true) (q : Q (.bl (!ss.isEmpty)) H) : rNeD K (.ref a) (.ref b) H Q := by
  have sh := (Sm.list (Sm.strs ok)).sh (by decide)
  cases ss with
  | nil => exact ⟨_, .list [], .lst h (dp_strs []), .lst hb .nil, sh, rfl, q⟩
  | cons n ns => exact ⟨_, .list [], .lst h (dp_strs (n :: ns)), .lst hb .nil, sh, rfl, q⟩
end
end Mc
namespace Mc
open PySem PySem.Spec PyProof.Rows L2

def topS (i : Nat) : Stmt := PySem.Challenge.pw_monthclamp_k41_dates_read.main.body.getD i (.Pass ⟨0, 0, 0, 0⟩)
abbrev s_is_leap : Stmt := topS 9
abbrev N_is_leap : List Str := ["year"]
theorem sc_is_leap : FnScope N_is_leap ["year"] (defScope s_is_leap) := ⟨rfl, rfl, rfl, by decide +kernel, rfl, by decide +kernel, by decide +kernel⟩
abbrev s_is_month : Stmt := topS 10
abbrev N_is_month : List Str := ["month"]
theorem sc_is_month : FnScope N_is_month ["month"] (defScope s_is_month) := ⟨rfl, rfl, rfl, by decide +kernel, rfl, by decide +kernel, by decide +kernel⟩
abbrev s_length_of_month : Stmt := topS 11
abbrev N_length_of_month : List Str := ["year", "month"]
theorem sc_length_of_month : FnScope N_length_of_month ["year", "month"] (defScope s_length_of_month) := ⟨rfl, rfl, rfl, by decide +kernel, rfl, by decide +kernel, by decide +kernel⟩
abbrev s_is_date : Stmt := topS 13
abbrev N_is_date : List Str := ["date", "year", "month", "day"]
theorem sc_is_date : FnScope N_is_date ["date"] (defScope s_is_date) := ⟨rfl, rfl, rfl, by decide +kernel, rfl, by decide +kernel, by decide +kernel⟩
abbrev s_show_date : Stmt := topS 15
abbrev N_show_date : List Str := ["date", "year", "month", "day"]
theorem sc_show_date : FnScope N_show_date ["date"] (defScope s_show_date) := ⟨rfl, rfl, rfl, by decide +kernel, rfl, by decide +kernel, by decide +kernel⟩
abbrev s_number_in : Stmt := topS 19
abbrev N_number_in : List Str := ["word", "digits", "sign"]
theorem sc_number_in : FnScope N_number_in ["word"] (defScope s_number_in) := ⟨rfl, rfl, rfl, by decide +kernel, rfl, by decide +kernel, by decide +kernel⟩
abbrev s_read_date : Stmt := topS 20
abbrev N_read_date : List Str := ["text", "numbers", "date", "word"]
theorem sc_read_date : FnScope N_read_date ["text"] (defScope s_read_date) := ⟨rfl, rfl, rfl, by decide +kernel, rfl, by decide +kernel, by decide +kernel⟩
abbrev s_law_source : Stmt := topS 22
abbrev N_law_source : List Str := ["script", "mix", "digits", "cell", "size"]
theorem sc_law_source : FnScope N_law_source ["script"] (defScope s_law_source) := ⟨rfl, rfl, rfl, by decide +kernel, rfl, by decide +kernel, by decide +kernel⟩
abbrev s_law_draw : Stmt := topS 23
abbrev N_law_draw : List Str := ["source", "many", "drawn", "mixed"]
theorem sc_law_draw : FnScope N_law_draw ["source", "many"] (defScope s_law_draw) := ⟨rfl, rfl, rfl, by decide +kernel, rfl, by decide +kernel, by decide +kernel⟩
abbrev s_law_same : Stmt := topS 24
abbrev N_law_same : List Str := ["found", "wanted", "k"]
theorem sc_law_same : FnScope N_law_same ["found", "wanted"] (defScope s_law_same) := ⟨rfl, rfl, rfl, by decide +kernel, rfl, by decide +kernel, by decide +kernel⟩
abbrev s_law_leap : Stmt := topS 25
abbrev N_law_leap : List Str := ["count"]
theorem sc_law_leap : FnScope N_law_leap ["count"] (defScope s_law_leap) := ⟨rfl, rfl, rfl, by decide +kernel, rfl, by decide +kernel, by decide +kernel⟩
abbrev s_law_length : Stmt := topS 26
abbrev N_law_length : List Str := ["number", "place"]
theorem sc_law_length : FnScope N_law_length ["number"] (defScope s_law_length) := ⟨rfl, rfl, rfl, by decide +kernel, rfl, by decide +kernel, by decide +kernel⟩
abbrev s_law_count : Stmt := topS 27
abbrev N_law_count : List Str := ["source", "some", "far"]
theorem sc_law_count : FnScope N_law_count ["source"] (defScope s_law_count) := ⟨rfl, rfl, rfl, by decide +kernel, rfl, by decide +kernel, by decide +kernel⟩
abbrev s_law_date : Stmt := topS 28
abbrev N_law_date : List Str := ["source", "count", "place", "last", "days"]
theorem sc_law_date : FnScope N_law_date ["source"] (defScope s_law_date) := ⟨rfl, rfl, rfl, by decide +kernel, rfl, by decide +kernel, by decide +kernel⟩
abbrev s_law_text : Stmt := topS 29
abbrev N_law_text : List Str := ["begin"]
theorem sc_law_text : FnScope N_law_text ["begin"] (defScope s_law_text) := ⟨rfl, rfl, rfl, by decide +kernel, rfl, by decide +kernel, by decide +kernel⟩
abbrev s_law_row : Stmt := topS 30
abbrev N_law_row : List Str := ["jumps", "words", "one"]
theorem sc_law_row : FnScope N_law_row ["jumps"] (defScope s_law_row) := ⟨rfl, rfl, rfl, by decide +kernel, rfl, by decide +kernel, by decide +kernel⟩
abbrev s_law_number : Stmt := topS 31
abbrev N_law_number : List Str := ["word", "signs", "plain", "number", "sign"]
theorem sc_law_number : FnScope N_law_number ["word", "signs"] (defScope s_law_number) := ⟨rfl, rfl, rfl, by decide +kernel, rfl, by decide +kernel, by decide +kernel⟩
abbrev s_law_date_in : Stmt := topS 32
abbrev N_law_date_in : List Str := ["line", "words", "found"]
theorem sc_law_date_in : FnScope N_law_date_in ["line"] (defScope s_law_date_in) := ⟨rfl, rfl, rfl, by decide +kernel, rfl, by decide +kernel, by decide +kernel⟩
abbrev s_law_jumps_in : Stmt := topS 33
abbrev N_law_jumps_in : List Str := ["line", "found", "word", "number"]
theorem sc_law_jumps_in : FnScope N_law_jumps_in ["line"] (defScope s_law_jumps_in) := ⟨rfl, rfl, rfl, by decide +kernel, rfl, by decide +kernel, by decide +kernel⟩
abbrev s_law_bent : Stmt := topS 34
abbrev N_law_bent : List Str := ["source", "line", "time", "at", "sign", "some"]
theorem sc_law_bent : FnScope N_law_bent ["source", "line"] (defScope s_law_bent) := ⟨rfl, rfl, rfl, by decide +kernel, rfl, by decide +kernel, by decide +kernel⟩
abbrev s_law_error : Stmt := topS 35
abbrev N_law_error : List Str := ["e", "held", "names", "name", "is_one"]
theorem sc_law_error : FnScope N_law_error ["e"] (defScope s_law_error) := ⟨rfl, rfl, rfl, by decide +kernel, rfl, by decide +kernel, by decide +kernel⟩
abbrev s_law_told : Stmt := topS 36
abbrev N_law_told : List Str := ["line", "by_name", "e"]
theorem sc_law_told : FnScope N_law_told ["line", "by_name"] (defScope s_law_told) := ⟨rfl, rfl, rfl, by decide +kernel, rfl, by decide +kernel, by decide +kernel⟩
abbrev s_law_right : Stmt := topS 37
abbrev N_law_right : List Str := ["line", "due"]
theorem sc_law_right : FnScope N_law_right ["line"] (defScope s_law_right) := ⟨rfl, rfl, rfl, by decide +kernel, rfl, by decide +kernel, by decide +kernel⟩
abbrev s_law : Stmt := topS 38
abbrev N_law : List Str := ["script", "source", "k", "turn", "begin", "line", "days", "odd", "some", "day", "one"]
theorem sc_law : FnScope N_law ["script"] (defScope s_law) := ⟨rfl, rfl, rfl, by decide +kernel, rfl, by decide +kernel, by decide +kernel⟩
abbrev s_InvalidDate___init__ : Stmt := clsS (topS 2) 0
abbrev N_InvalidDate___init__ : List Str := ["self", "value"]
theorem sc_InvalidDate___init__ : FnScope N_InvalidDate___init__ ["self", "value"] (defScope s_InvalidDate___init__) := ⟨rfl, rfl, rfl, by decide +kernel, rfl, by decide +kernel, by decide +kernel⟩
abbrev s_InvalidNumber___init__ : Stmt := clsS (topS 3) 0
abbrev N_InvalidNumber___init__ : List Str := ["self", "value"]
theorem sc_InvalidNumber___init__ : FnScope N_InvalidNumber___init__ ["self", "value"] (defScope s_InvalidNumber___init__) := ⟨rfl, rfl, rfl, by decide +kernel, rfl, by decide +kernel, by decide +kernel⟩
abbrev s_NothingToUndo___init__ : Stmt := clsS (topS 4) 0
abbrev N_NothingToUndo___init__ : List Str := ["self", "value"]
theorem sc_NothingToUndo___init__ : FnScope N_NothingToUndo___init__ ["self", "value"] (defScope s_NothingToUndo___init__) := ⟨rfl, rfl, rfl, by decide +kernel, rfl, by decide +kernel, by decide +kernel⟩
abbrev s_Unreadable___init__ : Stmt := clsS (topS 5) 0
abbrev N_Unreadable___init__ : List Str := ["self", "value"]
theorem sc_Unreadable___init__ : FnScope N_Unreadable___init__ ["self", "value"] (defScope s_Unreadable___init__) := ⟨rfl, rfl, rfl, by decide +kernel, rfl, by decide +kernel, by decide +kernel⟩
/-- what the top has left, by names -/
structure Txt (K : PySem.W.Frag) (mg : Str → Option Value) where
  g_is_leap : mg "is_leap" = some (.ref (He.ga K "is_leap"))
  fd_is_leap : FuncData
  F_is_leap : FunD K "is_leap" "is_leap" (defArgs s_is_leap) (defBody s_is_leap) (defScope s_is_leap) [] [] (He.ga K "is_leap") fd_is_leap
  g_is_month : mg "is_month" = some (.ref (He.ga K "is_month"))
  fd_is_month : FuncData
  F_is_month : FunD K "is_month" "is_month" (defArgs s_is_month) (defBody s_is_month) (defScope s_is_month) [] [] (He.ga K "is_month") fd_is_month
  g_length_of_month : mg "length_of_month" = some (.ref (He.ga K "length_of_month"))
  fd_length_of_month : FuncData
  F_length_of_month : FunD K "length_of_month" "length_of_month" (defArgs s_length_of_month) (defBody s_length_of_month) (defScope s_length_of_month) [] [] (He.ga K "length_of_month") fd_length_of_month
  g_is_date : mg "is_date" = some (.ref (He.ga K "is_date"))
  fd_is_date : FuncData
  F_is_date : FunD K "is_date" "is_date" (defArgs s_is_date) (defBody s_is_date) (defScope s_is_date) [] [] (He.ga K "is_date") fd_is_date
  g_show_date : mg "show_date" = some (.ref (He.ga K "show_date"))
  fd_show_date : FuncData
  F_show_date : FunD K "show_date" "show_date" (defArgs s_show_date) (defBody s_show_date) (defScope s_show_date) [] [] (He.ga K "show_date") fd_show_date
  g_number_in : mg "number_in" = some (.ref (He.ga K "number_in"))
  fd_number_in : FuncData
  F_number_in : FunD K "number_in" "number_in" (defArgs s_number_in) (defBody s_number_in) (defScope s_number_in) [] [] (He.ga K "number_in") fd_number_in
  g_read_date : mg "read_date" = some (.ref (He.ga K "read_date"))
  fd_read_date : FuncData
  F_read_date : FunD K "read_date" "read_date" (defArgs s_read_date) (defBody s_read_date) (defScope s_read_date) [] [] (He.ga K "read_date") fd_read_date
  g_law_source : mg "_law_source" = some (.ref (He.ga K "_law_source"))
  fd_law_source : FuncData
  F_law_source : FunD K "_law_source" "_law_source" (defArgs s_law_source) (defBody s_law_source) (defScope s_law_source) [] [] (He.ga K "_law_source") fd_law_source
  g_law_draw : mg "_law_draw" = some (.ref (He.ga K "_law_draw"))
  fd_law_draw : FuncData
  F_law_draw : FunD K "_law_draw" "_law_draw" (defArgs s_law_draw) (defBody s_law_draw) (defScope s_law_draw) [] [] (He.ga K "_law_draw") fd_law_draw
  g_law_same : mg "_law_same" = some (.ref (He.ga K "_law_same"))
  fd_law_same : FuncData
  F_law_same : FunD K "_law_same" "_law_same" (defArgs s_law_same) (defBody s_law_same) (defScope s_law_same) [] [] (He.ga K "_law_same") fd_law_same
  g_law_leap : mg "_law_leap" = some (.ref (He.ga K "_law_leap"))
  fd_law_leap : FuncData
  F_law_leap : FunD K "_law_leap" "_law_leap" (defArgs s_law_leap) (defBody s_law_leap) (defScope s_law_leap) [] [] (He.ga K "_law_leap") fd_law_leap
  g_law_length : mg "_law_length" = some (.ref (He.ga K "_law_length"))
  fd_law_length : FuncData
  F_law_length : FunD K "_law_length" "_law_length" (defArgs s_law_length) (defBody s_law_length) (defScope s_law_length) [] [] (He.ga K "_law_length") fd_law_length
  g_law_count : mg "_law_count" = some (.ref (He.ga K "_law_count"))
  fd_law_count : FuncData
  F_law_count : FunD K "_law_count" "_law_count" (defArgs s_law_count) (defBody s_law_count) (defScope s_law_count) [] [] (He.ga K "_law_count") fd_law_count
  g_law_date : mg "_law_date" = some (.ref (He.ga K "_law_date"))
  fd_law_date : FuncData
  F_law_date : FunD K "_law_date" "_law_date" (defArgs s_law_date) (defBody s_law_date) (defScope s_law_date) [] [] (He.ga K "_law_date") fd_law_date
  g_law_text : mg "_law_text" = some (.ref (He.ga K "_law_text"))
  fd_law_text : FuncData
  F_law_text : FunD K "_law_text" "_law_text" (defArgs s_law_text) (defBody s_law_text) (defScope s_law_text) [] [] (He.ga K "_law_text") fd_law_text
  g_law_row : mg "_law_row" = some (.ref (He.ga K "_law_row"))
  fd_law_row : FuncData
  F_law_row : FunD K "_law_row" "_law_row" (defArgs s_law_row) (defBody s_law_row) (defScope s_law_row) [] [] (He.ga K "_law_row") fd_law_row
  g_law_number : mg "_law_number" = some (.ref (He.ga K "_law_number"))
  fd_law_number : FuncData
  F_law_number : FunD K "_law_number" "_law_number" (defArgs s_law_number) (defBody s_law_number) (defScope s_law_number) [] [] (He.ga K "_law_number") fd_law_number
  g_law_date_in : mg "_law_date_in" = some (.ref (He.ga K "_law_date_in"))
  fd_law_date_in : FuncData
  F_law_date_in : FunD K "_law_date_in" "_law_date_in" (defArgs s_law_date_in) (defBody s_law_date_in) (defScope s_law_date_in) [] [] (He.ga K "_law_date_in") fd_law_date_in
  g_law_jumps_in : mg "_law_jumps_in" = some (.ref (He.ga K "_law_jumps_in"))
  fd_law_jumps_in : FuncData
  F_law_jumps_in : FunD K "_law_jumps_in" "_law_jumps_in" (defArgs s_law_jumps_in) (defBody s_law_jumps_in) (defScope s_law_jumps_in) [] [] (He.ga K "_law_jumps_in") fd_law_jumps_in
  g_law_bent : mg "_law_bent" = some (.ref (He.ga K "_law_bent"))
  fd_law_bent : FuncData
  F_law_bent : FunD K "_law_bent" "_law_bent" (defArgs s_law_bent) (defBody s_law_bent) (defScope s_law_bent) [] [] (He.ga K "_law_bent") fd_law_bent
  g_law_error : mg "_law_error" = some (.ref (He.ga K "_law_error"))
  fd_law_error : FuncData
  F_law_error : FunD K "_law_error" "_law_error" (defArgs s_law_error) (defBody s_law_error) (defScope s_law_error) [] [] (He.ga K "_law_error") fd_law_error
  g_law_told : mg "_law_told" = some (.ref (He.ga K "_law_told"))
  fd_law_told : FuncData
  F_law_told : FunD K "_law_told" "_law_told" (defArgs s_law_told) (defBody s_law_told) (defScope s_law_told) [] [] (He.ga K "_law_told") fd_law_told
  g_law_right : mg "_law_right" = some (.ref (He.ga K "_law_right"))
  fd_law_right : FuncData
  F_law_right : FunD K "_law_right" "_law_right" (defArgs s_law_right) (defBody s_law_right) (defScope s_law_right) [] [] (He.ga K "_law_right") fd_law_right
  g_law : mg "law" = some (.ref (He.ga K "law"))
  fd_law : FuncData
  F_law : FunD K "law" "law" (defArgs s_law) (defBody s_law) (defScope s_law) [] [] (He.ga K "law") fd_law
  fd_InvalidDate___init__ : FuncData
  F_InvalidDate___init__ : FunD K "__init__" "InvalidDate.__init__" (defArgs s_InvalidDate___init__) (defBody s_InvalidDate___init__) (defScope s_InvalidDate___init__) [] [] (He.ma K (He.ga K "InvalidDate") "__init__") fd_InvalidDate___init__
  fd_InvalidNumber___init__ : FuncData
  F_InvalidNumber___init__ : FunD K "__init__" "InvalidNumber.__init__" (defArgs s_InvalidNumber___init__) (defBody s_InvalidNumber___init__) (defScope s_InvalidNumber___init__) [] [] (He.ma K (He.ga K "InvalidNumber") "__init__") fd_InvalidNumber___init__
  fd_NothingToUndo___init__ : FuncData
  F_NothingToUndo___init__ : FunD K "__init__" "NothingToUndo.__init__" (defArgs s_NothingToUndo___init__) (defBody s_NothingToUndo___init__) (defScope s_NothingToUndo___init__) [] [] (He.ma K (He.ga K "NothingToUndo") "__init__") fd_NothingToUndo___init__
  fd_Unreadable___init__ : FuncData
  F_Unreadable___init__ : FunD K "__init__" "Unreadable.__init__" (defArgs s_Unreadable___init__) (defBody s_Unreadable___init__) (defScope s_Unreadable___init__) [] [] (He.ma K (He.ga K "Unreadable") "__init__") fd_Unreadable___init__
  g_InvalidDate : mg "InvalidDate" = some (.ref (He.ga K "InvalidDate"))
  g_InvalidNumber : mg "InvalidNumber" = some (.ref (He.ga K "InvalidNumber"))
  g_NothingToUndo : mg "NothingToUndo" = some (.ref (He.ga K "NothingToUndo"))
  g_Unreadable : mg "Unreadable" = some (.ref (He.ga K "Unreadable"))
  g_DateError : mg "DateError" = some (.ref (He.ga K "DateError"))
  d_DateError : BaseK K (He.ga K "DateError")
  e_InvalidDate : ExcK K (He.ga K "InvalidDate")
  x_InvalidDate_DateError : PySem.W.exmOne K (.ref (He.ga K "InvalidDate")) (.ref (He.ga K "DateError")) = some true
  k_InvalidDate_InvalidDate : PySem.W.kitOne K (.ref (He.ga K "InvalidDate")) (.ref (He.ga K "InvalidDate")) = some true
  k_InvalidDate_InvalidNumber : PySem.W.kitOne K (.ref (He.ga K "InvalidDate")) (.ref (He.ga K "InvalidNumber")) = some false
  k_InvalidDate_NothingToUndo : PySem.W.kitOne K (.ref (He.ga K "InvalidDate")) (.ref (He.ga K "NothingToUndo")) = some false
  k_InvalidDate_Unreadable : PySem.W.kitOne K (.ref (He.ga K "InvalidDate")) (.ref (He.ga K "Unreadable")) = some false
  k_InvalidDate_DateError : PySem.W.kitOne K (.ref (He.ga K "InvalidDate")) (.ref (He.ga K "DateError")) = some true
  k_InvalidDate_ValueError : PySem.W.kitOne K (.ref (He.ga K "InvalidDate")) (.type "ValueError") = some true
  e_InvalidNumber : ExcK K (He.ga K "InvalidNumber")
  x_InvalidNumber_DateError : PySem.W.exmOne K (.ref (He.ga K "InvalidNumber")) (.ref (He.ga K "DateError")) = some true
  k_InvalidNumber_InvalidDate : PySem.W.kitOne K (.ref (He.ga K "InvalidNumber")) (.ref (He.ga K "InvalidDate")) = some false
  k_InvalidNumber_InvalidNumber : PySem.W.kitOne K (.ref (He.ga K "InvalidNumber")) (.ref (He.ga K "InvalidNumber")) = some true
  k_InvalidNumber_NothingToUndo : PySem.W.kitOne K (.ref (He.ga K "InvalidNumber")) (.ref (He.ga K "NothingToUndo")) = some false
  k_InvalidNumber_Unreadable : PySem.W.kitOne K (.ref (He.ga K "InvalidNumber")) (.ref (He.ga K "Unreadable")) = some false
  k_InvalidNumber_DateError : PySem.W.kitOne K (.ref (He.ga K "InvalidNumber")) (.ref (He.ga K "DateError")) = some true
  k_InvalidNumber_ValueError : PySem.W.kitOne K (.ref (He.ga K "InvalidNumber")) (.type "ValueError") = some true
  e_NothingToUndo : ExcK K (He.ga K "NothingToUndo")
  x_NothingToUndo_DateError : PySem.W.exmOne K (.ref (He.ga K "NothingToUndo")) (.ref (He.ga K "DateError")) = some true
  k_NothingToUndo_InvalidDate : PySem.W.kitOne K (.ref (He.ga K "NothingToUndo")) (.ref (He.ga K "InvalidDate")) = some false
  k_NothingToUndo_InvalidNumber : PySem.W.kitOne K (.ref (He.ga K "NothingToUndo")) (.ref (He.ga K "InvalidNumber")) = some false
  k_NothingToUndo_NothingToUndo : PySem.W.kitOne K (.ref (He.ga K "NothingToUndo")) (.ref (He.ga K "NothingToUndo")) = some true
  k_NothingToUndo_Unreadable : PySem.W.kitOne K (.ref (He.ga K "NothingToUndo")) (.ref (He.ga K "Unreadable")) = some false
  k_NothingToUndo_DateError : PySem.W.kitOne K (.ref (He.ga K "NothingToUndo")) (.ref (He.ga K "DateError")) = some true
  k_NothingToUndo_ValueError : PySem.W.kitOne K (.ref (He.ga K "NothingToUndo")) (.type "ValueError") = some true
  e_Unreadable : ExcK K (He.ga K "Unreadable")
  x_Unreadable_DateError : PySem.W.exmOne K (.ref (He.ga K "Unreadable")) (.ref (He.ga K "DateError")) = some true
  k_Unreadable_InvalidDate : PySem.W.kitOne K (.ref (He.ga K "Unreadable")) (.ref (He.ga K "InvalidDate")) = some false
  k_Unreadable_InvalidNumber : PySem.W.kitOne K (.ref (He.ga K "Unreadable")) (.ref (He.ga K "InvalidNumber")) = some false
  k_Unreadable_NothingToUndo : PySem.W.kitOne K (.ref (He.ga K "Unreadable")) (.ref (He.ga K "NothingToUndo")) = some false
  k_Unreadable_Unreadable : PySem.W.kitOne K (.ref (He.ga K "Unreadable")) (.ref (He.ga K "Unreadable")) = some true
  k_Unreadable_DateError : PySem.W.kitOne K (.ref (He.ga K "Unreadable")) (.ref (He.ga K "DateError")) = some true
  k_Unreadable_ValueError : PySem.W.kitOne K (.ref (He.ga K "Unreadable")) (.type "ValueError") = some true
  b_ValueError : mg "ValueError" = none
  b_all : mg "all" = none
  b_bool : mg "bool" = none
  b_int : mg "int" = none
  b_isinstance : mg "isinstance" = none
  b_len : mg "len" = none
  b_list : mg "list" = none
  b_max : mg "max" = none
  b_min : mg "min" = none
  b_range : mg "range" = none
  b_str : mg "str" = none
  b_tuple : mg "tuple" = none
  c_DIGITS : { t : Tok // mg "DIGITS" = some (.str "0123456789" t) }
  c_FEBRUARY : { t : Tok // mg "FEBRUARY" = some (.int (2) t) }
  c_MOST_DIGITS : { t : Tok // mg "MOST_DIGITS" = some (.int (60) t) }
  g_SHORT_MONTHS : mg "SHORT_MONTHS" = some (.ref (He.ga K "SHORT_MONTHS"))
  t_SHORT_MONTHS : ∀ H : Hp, SqT K H (He.ga K "SHORT_MONTHS") [.int (4), .int (6), .int (9), .int (11)]
section
variable {P : Program} {w : World} {K : PySem.W.Frag} {mg : Str → Option Value} {base : Heap}
theorem start_is_leap (v0 : V) : L2.start N_is_leap [v0] = [some v0] := rfl
theorem b_is_leap (T : Txt K mg) : Binds K T.fd_is_leap ["year"] [] := T.F_is_leap.bindsN fun _ _ _ _ _ _ us hl => match us, hl with | [_], _ => rfl
theorem start_is_month (v0 : V) : L2.start N_is_month [v0] = [some v0] := rfl
theorem b_is_month (T : Txt K mg) : Binds K T.fd_is_month ["month"] [] := T.F_is_month.bindsN fun _ _ _ _ _ _ us hl => match us, hl with | [_], _ => rfl
theorem start_length_of_month (v0 v1 : V) : L2.start N_length_of_month [v0, v1] = [some v0, some v1] := rfl
theorem b_length_of_month (T : Txt K mg) : Binds K T.fd_length_of_month ["year", "month"] [] := T.F_length_of_month.bindsN fun _ _ _ _ _ _ us hl => match us, hl with | [_, _], _ => rfl
theorem start_is_date (v0 : V) : L2.start N_is_date [v0] = [some v0, none, none, none] := rfl
theorem b_is_date (T : Txt K mg) : Binds K T.fd_is_date ["date"] [] := T.F_is_date.bindsN fun _ _ _ _ _ _ us hl => match us, hl with | [_], _ => rfl
theorem start_show_date (v0 : V) : L2.start N_show_date [v0] = [some v0, none, none, none] := rfl
theorem b_show_date (T : Txt K mg) : Binds K T.fd_show_date ["date"] [] := T.F_show_date.bindsN fun _ _ _ _ _ _ us hl => match us, hl with | [_], _ => rfl
theorem start_number_in (v0 : V) : L2.start N_number_in [v0] = [some v0, none, none] := rfl
theorem b_number_in (T : Txt K mg) : Binds K T.fd_number_in ["word"] [] := T.F_number_in.bindsN fun _ _ _ _ _ _ us hl => match us, hl with | [_], _ => rfl
theorem start_read_date (v0 : V) : L2.start N_read_date [v0] = [some v0, none, none, none] := rfl
theorem b_read_date (T : Txt K mg) : Binds K T.fd_read_date ["text"] [] := T.F_read_date.bindsN fun _ _ _ _ _ _ us hl => match us, hl with | [_], _ => rfl
theorem start_law_source (v0 : V) : L2.start N_law_source [v0] = [some v0, none, none, none, none] := rfl
theorem b_law_source (T : Txt K mg) : Binds K T.fd_law_source ["script"] [] := T.F_law_source.bindsN fun _ _ _ _ _ _ us hl => match us, hl with | [_], _ => rfl
theorem start_law_draw (v0 v1 : V) : L2.start N_law_draw [v0, v1] = [some v0, some v1, none, none] := rfl
theorem b_law_draw (T : Txt K mg) : Binds K T.fd_law_draw ["source", "many"] [] := T.F_law_draw.bindsN fun _ _ _ _ _ _ us hl => match us, hl with | [_, _], _ => rfl
theorem start_law_same (v0 v1 : V) : L2.start N_law_same [v0, v1] = [some v0, some v1, none] := rfl
theorem b_law_same (T : Txt K mg) : Binds K T.fd_law_same ["found", "wanted"] [] := T.F_law_same.bindsN fun _ _ _ _ _ _ us hl => match us, hl with | [_, _], _ => rfl
theorem start_law_leap (v0 : V) : L2.start N_law_leap [v0] = [some v0] := rfl
theorem b_law_leap (T : Txt K mg) : Binds K T.fd_law_leap ["count"] [] := T.F_law_leap.bindsN fun _ _ _ _ _ _ us hl => match us, hl with | [_], _ => rfl
theorem start_law_length (v0 : V) : L2.start N_law_length [v0] = [some v0, none] := rfl
theorem b_law_length (T : Txt K mg) : Binds K T.fd_law_length ["number"] [] := T.F_law_length.bindsN fun _ _ _ _ _ _ us hl => match us, hl with | [_], _ => rfl
theorem start_law_count (v0 : V) : L2.start N_law_count [v0] = [some v0, none, none] := rfl
theorem b_law_count (T : Txt K mg) : Binds K T.fd_law_count ["source"] [] := T.F_law_count.bindsN fun _ _ _ _ _ _ us hl => match us, hl with | [_], _ => rfl
theorem start_law_date (v0 : V) : L2.start N_law_date [v0] = [some v0, none, none, none, none] := rfl
theorem b_law_date (T : Txt K mg) : Binds K T.fd_law_date ["source"] [] := T.F_law_date.bindsN fun _ _ _ _ _ _ us hl => match us, hl with | [_], _ => rfl
theorem start_law_text (v0 : V) : L2.start N_law_text [v0] = [some v0] := rfl
theorem b_law_text (T : Txt K mg) : Binds K T.fd_law_text ["begin"] [] := T.F_law_text.bindsN fun _ _ _ _ _ _ us hl => match us, hl with | [_], _ => rfl
theorem start_law_row (v0 : V) : L2.start N_law_row [v0] = [some v0, none, none] := rfl
theorem b_law_row (T : Txt K mg) : Binds K T.fd_law_row ["jumps"] [] := T.F_law_row.bindsN fun _ _ _ _ _ _ us hl => match us, hl with | [_], _ => rfl
theorem start_law_number (v0 v1 : V) : L2.start N_law_number [v0, v1] = [some v0, some v1, none, none, none] := rfl
theorem b_law_number (T : Txt K mg) : Binds K T.fd_law_number ["word", "signs"] [] := T.F_law_number.bindsN fun _ _ _ _ _ _ us hl => match us, hl with | [_, _], _ => rfl
theorem start_law_date_in (v0 : V) : L2.start N_law_date_in [v0] = [some v0, none, none] := rfl
theorem b_law_date_in (T : Txt K mg) : Binds K T.fd_law_date_in ["line"] [] := T.F_law_date_in.bindsN fun _ _ _ _ _ _ us hl => match us, hl with | [_], _ => rfl
theorem start_law_jumps_in (v0 : V) : L2.start N_law_jumps_in [v0] = [some v0, none, none, none] := rfl
theorem b_law_jumps_in (T : Txt K mg) : Binds K T.fd_law_jumps_in ["line"] [] := T.F_law_jumps_in.bindsN fun _ _ _ _ _ _ us hl => match us, hl with | [_], _ => rfl
theorem start_law_bent (v0 v1 : V) : L2.start N_law_bent [v0, v1] = [some v0, some v1, none, none, none, none] := rfl
theorem b_law_bent (T : Txt K mg) : Binds K T.fd_law_bent ["source", "line"] [] := T.F_law_bent.bindsN fun _ _ _ _ _ _ us hl => match us, hl with | [_, _], _ => rfl
theorem start_law_error (v0 : V) : L2.start N_law_error [v0] = [some v0, none, none, none, none] := rfl
theorem b_law_error (T : Txt K mg) : Binds K T.fd_law_error ["e"] [] := T.F_law_error.bindsN fun _ _ _ _ _ _ us hl => match us, hl with | [_], _ => rfl
theorem start_law_told (v0 v1 : V) : L2.start N_law_told [v0, v1] = [some v0, some v1, none] := rfl
theorem b_law_told (T : Txt K mg) : Binds K T.fd_law_told ["line", "by_name"] [] := T.F_law_told.bindsN fun _ _ _ _ _ _ us hl => match us, hl with | [_, _], _ => rfl
theorem start_law_right (v0 : V) : L2.start N_law_right [v0] = [some v0, none] := rfl
theorem b_law_right (T : Txt K mg) : Binds K T.fd_law_right ["line"] [] := T.F_law_right.bindsN fun _ _ _ _ _ _ us hl => match us, hl with | [_], _ => rfl
theorem start_law (v0 : V) : L2.start N_law [v0] = [some v0, none, none, none, none, none, none, none, none, none, none] := rfl
theorem b_law (T : Txt K mg) : Binds K T.fd_law ["script"] [] := T.F_law.bindsN fun _ _ _ _ _ _ us hl => match us, hl with | [_], _ => rfl
theorem start_InvalidDate___init__ (v0 v1 : V) : L2.start N_InvalidDate___init__ [v0, v1] = [some v0, some v1] := rfl
theorem b_InvalidDate___init__ (T : Txt K mg) : Binds K T.fd_InvalidDate___init__ ["self", "value"] [] := T.F_InvalidDate___init__.bindsN fun _ _ _ _ _ _ us hl => match us, hl with | [_, _], _ => rfl
theorem start_InvalidNumber___init__ (v0 v1 : V) : L2.start N_InvalidNumber___init__ [v0, v1] = [some v0, some v1] := rfl
theorem b_InvalidNumber___init__ (T : Txt K mg) : Binds K T.fd_InvalidNumber___init__ ["self", "value"] [] := T.F_InvalidNumber___init__.bindsN fun _ _ _ _ _ _ us hl => match us, hl with | [_, _], _ => rfl
theorem start_NothingToUndo___init__ (v0 v1 : V) : L2.start N_NothingToUndo___init__ [v0, v1] = [some v0, some v1] := rfl
theorem b_NothingToUndo___init__ (T : Txt K mg) : Binds K T.fd_NothingToUndo___init__ ["self", "value"] [] := T.F_NothingToUndo___init__.bindsN fun _ _ _ _ _ _ us hl => match us, hl with | [_, _], _ => rfl
theorem start_Unreadable___init__ (v0 v1 : V) : L2.start N_Unreadable___init__ [v0, v1] = [some v0, some v1] := rfl
theorem b_Unreadable___init__ (T : Txt K mg) : Binds K T.fd_Unreadable___init__ ["self", "value"] [] := T.F_Unreadable___init__.bindsN fun _ _ _ _ _ _ us hl => match us, hl with | [_, _], _ => rfl
theorem kb_read_date_0_text (T : Txt K mg) : KBn K T.fd_read_date ["text"] 0 ["text"] (gP .none [0]) (gP .non [0]) := kb_of T.F_read_date fun _ _ _ _ _ _ us ws h1 h2 => match us, ws, h1, h2 with | [], [_], _, _ => rfl
end
end Mc
namespace Mc
open PySem PySem.Spec PyProof.Rows L2
open HotX L2H
local macro_rules | `(tactic| lcg_src) => `(tactic| first
  | with_reducible assumption
  | ((with_reducible apply Ne.symm); with_reducible assumption)
  | ((with_reducible apply ne_nf); (with_reducible assumption); lcg_off)
  | ((with_reducible apply Ne.symm); (with_reducible apply ne_nf); (with_reducible assumption); lcg_off))
local macro_rules | `(tactic| lcg_off) => `(tactic| first
  | with_reducible assumption
  | (with_reducible exact upd_same)
  | ((with_reducible apply hp_ne); lcg_src; lcg_off)
  | ((with_reducible apply hp_same); (with_reducible assumption); lcg_off)
  | ((with_reducible apply hp_frm); (with_reducible assumption); lcg_src; lcg_off)
  | ((with_reducible apply hp_frm2); (with_reducible assumption); lcg_src; lcg_src; lcg_off)
  | assumption)
local macro_rules | `(tactic| kpt_turns) => `(tactic| first
  | with_reducible assumption
  | ((with_reducible apply SqL.of); lcg_off)
  | ((with_reducible apply SqT.of); lcg_off)
  | ((with_reducible apply Frm.seq); (with_reducible assumption); lcg_src; kpt_turns)
  | ((with_reducible apply Frm.tup); (with_reducible assumption); lcg_src; kpt_turns)
  | ((with_reducible apply Frm2.seq); (with_reducible assumption); lcg_src; lcg_src; kpt_turns)
  | ((with_reducible apply Frm2.tup); (with_reducible assumption); lcg_src; lcg_src; kpt_turns)
  | ((with_reducible apply L2.Same.seq); (with_reducible assumption); kpt_turns)
  | ((with_reducible apply Same.tup); (with_reducible assumption); kpt_turns)
  | assumption)
local macro_rules | `(tactic| k_memK) => `(tactic| first
  | with_reducible exact Frm.refl _
  | with_reducible assumption
  | ((with_reducible apply Frm.trN); (with_reducible assumption); k_memK)
  | ((with_reducible apply Frm.trU); k_memK)
  | ((with_reducible apply Frm.trM); (with_reducible assumption); k_memK)
  | ((with_reducible apply Frm.tr); (with_reducible assumption); k_memK)
  | ((with_reducible apply Frm.trS); (with_reducible assumption); k_memK)
  | with_reducible exact Frm2.refl _
  | ((with_reducible apply Frm2.trN); (with_reducible assumption); k_memK)
  | ((with_reducible apply Frm2.trU); k_memK)
  | ((with_reducible apply Frm2.trV); k_memK)
  | ((with_reducible apply Frm2.trM); (with_reducible assumption); k_memK)
  | ((with_reducible apply Frm2.tr); (with_reducible assumption); k_memK)
  | ((with_reducible apply Frm2.trS); (with_reducible assumption); k_memK))
local macro_rules | `(tactic| k_allIn) => `(tactic| first
  | with_reducible exact L2.Same.refl _
  | with_reducible assumption
  | ((with_reducible apply same_trN); (with_reducible assumption); k_allIn)
  | ((with_reducible apply same_trU); (with_reducible assumption); k_allIn)
  | ((with_reducible apply same_tr); (with_reducible assumption); k_allIn))
local macro_rules | `(tactic| k_ownIn) => `(tactic| first
  | with_reducible refine st_seq ?_
  | ((with_reducible refine' st_setF ?e ?_); (case e => intro x; (simp only [List.set_cons_zero, List.set_cons_succ]; exact rfl)))
  | with_reducible refine st_c ?_
  | ((with_reducible refine' st_var ?h ?_); (case h => exact rfl))
  | with_reducible refine st_op ?_
  | with_reducible refine st_I0 ?_
  | ((with_reducible refine' st_powL ?c ?e ?_); (case c => exact ⟨by decide, by decide, by decide⟩); (case e => (simp only [Int.reduceToNat, Int.reducePow]; exact rfl)))
  | ((with_reducible refine st_I ?h ?_); (case h => first | with_reducible assumption | (show (0 : Int) < _; omega) | exact ⟨by omega, by omega⟩ | exact .inl ⟨by omega, by omega⟩ | exact .inr ⟨by omega, by omega⟩ | exact ⟨by omega, by omega, by omega⟩))
  | with_reducible refine st_nil ?_
  | with_reducible refine st_cons ?_
  | with_reducible refine st_ret ?_
  | with_reducible refine st_call ?_
  | with_reducible refine st_cb ?_
  | with_reducible refine st_exb ?_
  | ((with_reducible refine' st_ixL ?h1 ?h2 ?_); (case h1 => kpt_turns); (case h2 => first | ((with_reducible apply at0); exact rfl) | ((with_reducible apply at1); exact rfl) | ((with_reducible apply at2); exact rfl) | ((with_reducible apply at3); exact rfl) | with_reducible assumption))
  | ((with_reducible refine' st_ixT ?h1 ?h2 ?_); (case h1 => kpt_turns); (case h2 => first | ((with_reducible apply at0); exact rfl) | ((with_reducible apply at1); exact rfl) | ((with_reducible apply at2); exact rfl) | with_reducible assumption))
  | ((with_reducible refine' st_ixP ?h1 ?h2 ?h3 ?h4 ?_); (case h1 => kpt_turns); (case h2 => (repeat constructor)); (case h3 => omega); (case h4 => (simp; omega)))
  | ((with_reducible refine' st_ixPT ?h1 ?h2 ?h3 ?h4 ?_); (case h1 => kpt_turns); (case h2 => (repeat constructor)); (case h3 => omega); (case h4 => (simp; omega)))
  | with_reducible refine st_tB ?_
  | with_reducible refine st_test ?_
  | with_reducible refine st_and ?_
  | with_reducible refine st_or ?_
  | with_reducible refine st_not ?_
  | with_reducible refine st_andV ?_
  | with_reducible refine st_orV ?_
  | with_reducible refine st_notV ?_
  | with_reducible refine st_chain ?_
  | with_reducible refine st_iT ?_
  | with_reducible refine st_iF ?_
  | with_reducible refine st_iNT ?_
  | with_reducible refine st_iNF ?_
  | with_reducible refine st_iRf ?_
  | with_reducible refine st_iNRf ?_
  | with_reducible refine st_asg ?_
  | ((with_reducible refine' st_parF ?e ?_); (case e => intro x y; (simp only [List.set_cons_zero, List.set_cons_succ]; exact rfl)))
  | with_reducible refine st_par2 ?_
  | with_reducible refine st_fst ?_
  | with_reducible refine st_jsE ?_
  | with_reducible refine st_js ?_
  | with_reducible refine st_fmt ?_
  | with_reducible refine st_joinK ?_
  | with_reducible refine st_strx ?_
  | ((with_reducible refine' st_par3F ?e ?_); (case e => intro x y z; (simp only [List.set_cons_zero, List.set_cons_succ]; exact rfl)))
  | with_reducible refine st_par3 ?_
  | ((with_reducible refine' st_augF ?h ?e ?_); (case h => exact rfl); (case e => intro x; (simp only [List.set_cons_zero, List.set_cons_succ]; exact rfl)))
  | with_reducible refine st_ipI ?_
  | with_reducible refine st_drop ?_
  | with_reducible refine st_next ?_
  | with_reducible refine st_un ?_
  | with_reducible refine st_U ?_
  | ((with_reducible refine' st_gNF ?e ?_); (case e => (simp only [List.set_cons_zero, List.set_cons_succ]; exact rfl)))
  | with_reducible refine st_gN ?_
  | ((with_reducible refine' st_gT ?h1 ?h2 ?_); (case h1 => kpt_turns); (case h2 => exact rfl))
  | with_reducible refine st_gC ?_
  | with_reducible refine st_gE ?_
  | with_reducible refine st_gS ?_
  | ((with_reducible refine' st_setL ?h1 ?h2 ?_); (case h1 => lcg_off); (case h2 => exact rfl))
  | with_reducible refine st_lst ?_
  | with_reducible refine st_tup ?_
  | ((with_reducible refine st_new ?h ?_); (case h => (simp; done)))
  | with_reducible refine st_callN ?_
  | with_reducible refine st_bm ?_
  | with_reducible refine st_bm0 ?_
  | ((with_reducible refine' st_tyL ?h ?_); (case h => kpt_turns))
  | ((with_reducible refine st_eq ?h ?_); (case h => exact rfl))
  | ((with_reducible refine st_ne ?h ?_); (case h => exact rfl))
  | with_reducible refine st_i1 ?_
  | with_reducible refine st_i2 ?_
  | with_reducible refine st_int ?_
  | with_reducible refine st_intb ?_
  | ((with_reducible refine' st_lenQ ?h ?_); (case h => kpt_turns))
  | ((with_reducible refine' st_lenQT ?h ?_); (case h => kpt_turns))
  | with_reducible refine st_yes ?_
  | with_reducible refine st_brk ?_
  | with_reducible refine st_cont ?_
  | with_reducible refine st_retN ?_
  | with_reducible refine st_forI ?_
  | with_reducible refine st_lcI ?_
  | with_reducible refine st_itL ?_
  | with_reducible refine st_itT ?_
  | with_reducible refine st_rng1 ?_
  | with_reducible refine st_rng2 ?_
  | with_reducible refine st_ref ?_
  | with_reducible refine st_sl ?_
  | with_reducible refine st_pN ?_
  | with_reducible refine st_pS ?_
  | with_reducible refine st_pI ?_
  | (refine ⟨rfl, ?_⟩))
local macro_rules | `(tactic| cell_call) => `(tactic| first
  | with_reducible refine st_seq ?_
  | ((with_reducible refine' st_setF ?e ?_); (case e => intro x; (simp only [List.set_cons_zero, List.set_cons_succ]; exact rfl)))
  | with_reducible refine st_c ?_
  | ((with_reducible refine' st_var ?h ?_); (case h => exact rfl))
  | with_reducible refine st_op ?_
  | with_reducible refine st_I0 ?_
  | ((with_reducible refine' st_powL ?c ?e ?_); (case c => exact ⟨by decide, by decide, by decide⟩); (case e => (simp only [Int.reduceToNat, Int.reducePow]; exact rfl)))
  | ((with_reducible refine st_I ?h ?_); (case h => first | with_reducible assumption | (show (0 : Int) < _; omega) | exact ⟨by omega, by omega⟩ | exact .inl ⟨by omega, by omega⟩ | exact .inr ⟨by omega, by omega⟩ | exact ⟨by omega, by omega, by omega⟩))
  | with_reducible refine st_nil ?_
  | with_reducible refine st_cons ?_
  | with_reducible refine st_ret ?_
  | with_reducible refine st_call ?_
  | with_reducible refine st_cb ?_
  | with_reducible refine st_exb ?_
  | ((with_reducible refine' st_ixL ?h1 ?h2 ?_); (case h1 => kpt_turns); (case h2 => first | ((with_reducible apply at0); exact rfl) | ((with_reducible apply at1); exact rfl) | ((with_reducible apply at2); exact rfl) | ((with_reducible apply at3); exact rfl) | with_reducible assumption))
  | ((with_reducible refine' st_ixT ?h1 ?h2 ?_); (case h1 => kpt_turns); (case h2 => first | ((with_reducible apply at0); exact rfl) | ((with_reducible apply at1); exact rfl) | ((with_reducible apply at2); exact rfl) | with_reducible assumption))
  | ((with_reducible refine' st_ixP ?h1 ?h2 ?h3 ?h4 ?_); (case h1 => kpt_turns); (case h2 => (repeat constructor)); (case h3 => omega); (case h4 => (simp; omega)))
  | ((with_reducible refine' st_ixPT ?h1 ?h2 ?h3 ?h4 ?_); (case h1 => kpt_turns); (case h2 => (repeat constructor)); (case h3 => omega); (case h4 => (simp; omega)))
  | with_reducible refine st_tB ?_
  | with_reducible refine st_test ?_
  | with_reducible refine st_and ?_
  | with_reducible refine st_or ?_
  | with_reducible refine st_not ?_
  | with_reducible refine st_andV ?_
  | with_reducible refine st_orV ?_
  | with_reducible refine st_notV ?_
  | with_reducible refine st_chain ?_
  | with_reducible refine st_iT ?_
  | with_reducible refine st_iF ?_
  | with_reducible refine st_iNT ?_
  | with_reducible refine st_iNF ?_
  | with_reducible refine st_iRf ?_
  | with_reducible refine st_iNRf ?_
  | with_reducible refine st_asg ?_
  | ((with_reducible refine' st_parF ?e ?_); (case e => intro x y; (simp only [List.set_cons_zero, List.set_cons_succ]; exact rfl)))
  | with_reducible refine st_par2 ?_
  | with_reducible refine st_fst ?_
  | with_reducible refine st_jsE ?_
  | with_reducible refine st_js ?_
  | with_reducible refine st_fmt ?_
  | with_reducible refine st_joinK ?_
  | with_reducible refine st_strx ?_
  | ((with_reducible refine' st_par3F ?e ?_); (case e => intro x y z; (simp only [List.set_cons_zero, List.set_cons_succ]; exact rfl)))
  | with_reducible refine st_par3 ?_
  | ((with_reducible refine' st_augF ?h ?e ?_); (case h => exact rfl); (case e => intro x; (simp only [List.set_cons_zero, List.set_cons_succ]; exact rfl)))
  | with_reducible refine st_ipI ?_
  | with_reducible refine st_drop ?_
  | with_reducible refine st_next ?_
  | with_reducible refine st_un ?_
  | with_reducible refine st_U ?_
  | ((with_reducible refine' st_gNF ?e ?_); (case e => (simp only [List.set_cons_zero, List.set_cons_succ]; exact rfl)))
  | with_reducible refine st_gN ?_
  | ((with_reducible refine' st_gT ?h1 ?h2 ?_); (case h1 => kpt_turns); (case h2 => exact rfl))
  | with_reducible refine st_gC ?_
  | with_reducible refine st_gE ?_
  | with_reducible refine st_gS ?_
  | ((with_reducible refine' st_setL ?h1 ?h2 ?_); (case h1 => lcg_off); (case h2 => exact rfl))
  | with_reducible refine st_lst ?_
  | with_reducible refine st_tup ?_
  | ((with_reducible refine st_new ?h ?_); (case h => (simp; done)))
  | with_reducible refine st_callN ?_
  | with_reducible refine st_bm ?_
  | with_reducible refine st_bm0 ?_
  | ((with_reducible refine' st_tyL ?h ?_); (case h => kpt_turns))
  | ((with_reducible refine st_eq ?h ?_); (case h => exact rfl))
  | ((with_reducible refine st_ne ?h ?_); (case h => exact rfl))
  | with_reducible refine st_i1 ?_
  | with_reducible refine st_i2 ?_
  | with_reducible refine st_int ?_
  | with_reducible refine st_intb ?_
  | ((with_reducible refine' st_lenQ ?h ?_); (case h => kpt_turns))
  | ((with_reducible refine' st_lenQT ?h ?_); (case h => kpt_turns))
  | with_reducible refine st_yes ?_
  | with_reducible refine st_brk ?_
  | with_reducible refine st_cont ?_
  | with_reducible refine st_retN ?_
  | with_reducible refine st_forI ?_
  | with_reducible refine st_lcI ?_
  | with_reducible refine st_itL ?_
  | with_reducible refine st_itT ?_
  | with_reducible refine st_rng1 ?_
  | with_reducible refine st_rng2 ?_
  | with_reducible refine st_ref ?_
  | with_reducible refine st_sl ?_
  | with_reducible refine st_pN ?_
  | with_reducible refine st_pS ?_
  | with_reducible refine st_pI ?_
  | (refine ⟨rfl, ?_⟩)
  | with_reducible refine st_ifE ?_
  | with_reducible refine st_ifS ?_)
local macro_rules | `(tactic| kpf_close) => `(tactic| first
  | cell_call
  | refine st_iD (fun _ => ?_) (fun _ => ?_)
  | refine st_iND (fun _ => ?_) (fun _ => ?_)
  | refine st_iNB (fun _ => ?_) (fun _ => ?_)
  | refine st_iB (fun _ => ?_) (fun _ => ?_))
local macro_rules | `(tactic| k_places) => `(tactic| first
  | with_reducible refine isi_non_bool ?_
  | with_reducible refine isi_non_int ?_
  | with_reducible refine isi_non_str ?_
  | with_reducible refine isi_non_list ?_
  | with_reducible refine isi_non_tuple ?_
  | with_reducible refine isi_bl_bool ?_
  | with_reducible refine isi_bl_int ?_
  | with_reducible refine isi_bl_str ?_
  | with_reducible refine isi_bl_list ?_
  | with_reducible refine isi_bl_tuple ?_
  | with_reducible refine isi_int_bool ?_
  | with_reducible refine isi_int_int ?_
  | with_reducible refine isi_int_str ?_
  | with_reducible refine isi_int_list ?_
  | with_reducible refine isi_int_tuple ?_
  | with_reducible refine isi_str_bool ?_
  | with_reducible refine isi_str_int ?_
  | with_reducible refine isi_str_str ?_
  | with_reducible refine isi_str_list ?_
  | with_reducible refine isi_str_tuple ?_
  | ((with_reducible refine' isi_list_bool ?h ?_); (case h => kpt_turns))
  | ((with_reducible refine' isi_list_int ?h ?_); (case h => kpt_turns))
  | ((with_reducible refine' isi_list_str ?h ?_); (case h => kpt_turns))
  | ((with_reducible refine' isi_list_list ?h ?_); (case h => kpt_turns))
  | ((with_reducible refine' isi_list_tuple ?h ?_); (case h => kpt_turns))
  | ((with_reducible refine' isi_tuple_bool ?h ?_); (case h => kpt_turns))
  | ((with_reducible refine' isi_tuple_int ?h ?_); (case h => kpt_turns))
  | ((with_reducible refine' isi_tuple_str ?h ?_); (case h => kpt_turns))
  | ((with_reducible refine' isi_tuple_list ?h ?_); (case h => kpt_turns))
  | ((with_reducible refine' isi_tuple_tuple ?h ?_); (case h => kpt_turns)))
local macro_rules | `(tactic| cell_call) => `(tactic| first
  | with_reducible refine st_zip ?_)
local macro_rules | `(tactic| k_ownIn) => `(tactic| first
  | with_reducible refine st_zip ?_)
local macro_rules | `(tactic| cell_call) => `(tactic| first
  | with_reducible refine st_veI ?_
  | with_reducible refine st_ost ?_
  | with_reducible refine st_mko ?_
  | with_reducible refine st_xv ?_
  | with_reducible refine st_lrg ?_
  | with_reducible refine st_callS ?_
  | with_reducible refine st_rg2 ?_
  | with_reducible refine st_rgE ?_)
local macro_rules | `(tactic| k_ownIn) => `(tactic| first
  | with_reducible refine st_veI ?_
  | with_reducible refine st_ost ?_
  | with_reducible refine st_mko ?_
  | with_reducible refine st_xv ?_
  | with_reducible refine st_lrg ?_
  | with_reducible refine st_callS ?_
  | with_reducible refine st_rg2 ?_
  | with_reducible refine st_rgE ?_)
local macro_rules | `(tactic| cell_call) => `(tactic| first
  | with_reducible refine st_inC ?_
  | with_reducible refine st_itS ?_
  | with_reducible refine st_itS1 ?_)
local macro_rules | `(tactic| k_ownIn) => `(tactic| first
  | with_reducible refine st_inC ?_
  | with_reducible refine st_itS ?_
  | with_reducible refine st_itS1 ?_)
local macro_rules | `(tactic| cell_call) => `(tactic| first
  | with_reducible refine st_notInC ?_
  | with_reducible refine st_turnS ?_
  | with_reducible refine st_callT ?_)
local macro_rules | `(tactic| k_ownIn) => `(tactic| first
  | with_reducible refine st_notInC ?_
  | with_reducible refine st_turnS ?_
  | with_reducible refine st_callT ?_)
section
variable {P : Program} {w : World} {K : PySem.W.Frag} {mg : Str → Option Value} {base : Heap}
theorem ok_Unreadable___init__ (T : Txt K mg) : FnOk P w K mg base CX0 1 (He.ma K (He.ga K "Unreadable") "__init__") T.fd_Unreadable___init__ ["self", "value"] (sp_einit K (He.ga K "Unreadable")) := by
  refine T.F_Unreadable___init__.ok sc_Unreadable___init__ (fun vs H Q E h => ?_) (fun cdv A outer s H vs Q E hr h => ?_)
  · obtain ⟨a, v, rfl, _⟩ := h
    rfl
  · obtain ⟨a, v, rfl, T1, ha, q⟩ := h
    refine ⟨_, PSs.nox (pss_cons (ps_expr (pe_binit rfl T.g_DateError T.d_DateError (pa_cons (pv 0) (pa_cons pe_str pa_nil))))
      (pss_one (ps_ost (pv 0) (pv 1)))), ?_⟩
    rw [start_Unreadable___init__]
    repeat cell_call
    refine ⟨a, _, [_], rfl, (by decide : 1 ≤ 1000), T1.oex, ha, ?_⟩
    repeat cell_call
    exact ⟨a, _, rfl, T1.oex, T1.noV, .inl ⟨ha, fun dx nd ne => q dx nd ne⟩⟩

def sp_is_leap (K : PySem.W.Frag) : Sp := fun vs H Q _ => ∃ y : Int, vs = [.int y] ∧ Q (.bl (leap y)) H
theorem ok_is_leap (T : Txt K mg) : FnOk P w K mg base CX0 1 (He.ga K "is_leap") T.fd_is_leap ["year"] (sp_is_leap K) := by
  refine T.F_is_leap.ok sc_is_leap (fun vs H Q E h => ?_) (fun cdv A outer s H vs Q E hr h => ?_)
  · obtain ⟨y, rfl, _⟩ := h
    rfl
  · obtain ⟨y, rfl, q⟩ := h
    refine ⟨_, PSs.nox (pss_one (ps_ret (pe_or (pe_and (pe_cmpR op_eqI (pe_op op_mod (pv 0) pe_int) pe_int (nomark _)) (pe_one (pe_cmpR op_neI (pe_op op_mod (pv 0) pe_int) pe_int (nomark _)))) (pe_one (pe_cmpR op_eqI (pe_op op_mod (pv 0) pe_int) pe_int (nomark _)))))), ?_⟩
    rw [start_is_leap]
    repeat' kpf_close
    all_goals (refine q_of q ?_; simp_all [leap])

def sp_is_month (K : PySem.W.Frag) : Sp := fun vs H Q _ => ∃ m : Int, vs = [.int m] ∧ Q (.bl (decide (1 ≤ m ∧ m ≤ 12))) H
theorem ok_is_month (T : Txt K mg) : FnOk P w K mg base CX0 1 (He.ga K "is_month") T.fd_is_month ["month"] (sp_is_month K) := by
  refine T.F_is_month.ok sc_is_month (fun vs H Q E h => ?_) (fun cdv A outer s H vs Q E hr h => ?_)
  · obtain ⟨y, rfl, _⟩ := h
    rfl
  · obtain ⟨y, rfl, q⟩ := h
    refine ⟨_, PSs.nox (pss_one (ps_ret (pe_chain op_le op_le pe_int (pv 0) pe_int))), ?_⟩
    rw [start_is_month]
    repeat' kpf_close
    all_goals (refine q_of q ?_; congr 1; first | (simp_all; done) | (simp_all; omega))

def sp_length_of_month (K : PySem.W.Frag) : Sp := fun vs H Q _ => ∃ y m : Int, vs = [.int y, .int m] ∧ Q (.int (mlen y m)) H
theorem ok_length_of_month (T : Txt K mg) : FnOk P w K mg base CX0 2 (He.ga K "length_of_month") T.fd_length_of_month ["year", "month"] (sp_length_of_month K) := by
  refine T.F_length_of_month.ok sc_length_of_month (fun vs H Q E h => ?_) (fun cdv A outer s H vs Q E hr h => ?_)
  · obtain ⟨y, m, rfl, _⟩ := h
    rfl
  · obtain ⟨y, m, rfl, q⟩ := h
    refine ⟨_, PSs.nox (pss_cons (ps_if (pt_cmpR op_eqI (pv 1) (pe_glob (v := .int (2)) rfl T.c_FEBRUARY.2 ⟨_, rfl⟩) (nomark _)) (pss_one (ps_ret (pe_ifExp (pt_val (pe_call (ok_is_leap T) (hr.mono (by decide)) rfl T.g_is_leap T.F_is_leap.kp (b_is_leap T) .nil pass0 (pa_cons (pv 0) pa_nil))) pe_int pe_int))) pss_nil)
      (pss_one (ps_ret (pe_ifExp (pt_cmpR (show OpR _ _ (rIn K false) from op_in_seq) (pv 1) (pe_glob (v := .ref (He.ga K "SHORT_MONTHS")) rfl T.g_SHORT_MONTHS rfl) (by rfl)) pe_int pe_int)))), ?_⟩
    rw [start_length_of_month]
    repeat cell_call
    refine st_iD (fun hm => ?_) (fun hm => ?_)
    · repeat cell_call
      refine ⟨y, rfl, ?_⟩
      repeat cell_call
      refine st_iB (fun hl => ?_) (fun hl => ?_)
      all_goals (refine q_of q ?_; simp_all [mlen])
    · repeat cell_call
      refine st_in (.inr (T.t_SHORT_MONTHS _)) rfl rfl ?_
      repeat cell_call
      rw [if_neg Bool.false_ne_true, show ([V.int 4, V.int 6, V.int 9, V.int 11] : List V) = [4, 6, 9, 11].map V.int from rfl, in_int]
      refine st_iD (fun hl => ?_) (fun hl => ?_)
      all_goals (refine q_of q ?_; simp_all [mlen])

def sp_is_date (K : PySem.W.Frag) : Sp := fun vs H Q _ => ∃ (D : Addr) (y m d : Int), vs = [.ref D] ∧ SqT K H D [.int y, .int m, .int d] ∧ Q (.bl (dateOk y m d)) H
theorem ok_is_date (T : Txt K mg) : FnOk P w K mg base CX0 3 (He.ga K "is_date") T.fd_is_date ["date"] (sp_is_date K) := by
  refine T.F_is_date.ok sc_is_date (fun vs H Q E h => ?_) (fun cdv A outer s H vs Q E hr h => ?_)
  · obtain ⟨D, y, m, d, rfl, _⟩ := h
    rfl
  · obtain ⟨D, y, m, d, rfl, hD, q⟩ := h
    refine ⟨_, PSs.nox (pss_cons (ps_asg (pv 0) (show PG _ _ (gTup K 3 _) from pg_tup rfl (pgs_cons (pg_name (i := 1) sc_is_date.nd rfl (Or.inl rfl)) (pgs_cons (pg_name (i := 2) sc_is_date.nd rfl (Or.inl rfl)) (pgs_cons (pg_name (i := 3) sc_is_date.nd rfl (Or.inl rfl)) pgs_nil)))))
      (pss_one (ps_ret (pe_and (pe_call (ok_is_month T) (hr.mono (by decide)) rfl T.g_is_month T.F_is_month.kp (b_is_month T) .nil pass0 (pa_cons (pv 2) pa_nil)) (pe_one (pe_chain op_le op_le pe_int (pv 3) (pe_call (ok_length_of_month T) (hr.mono (by decide)) rfl T.g_length_of_month T.F_length_of_month.kp (b_length_of_month T) .nil pass0 (pa_cons (pv 1) (pa_cons (pv 2) pa_nil))))))))), ?_⟩
    rw [start_is_date]
    repeat cell_call
    refine ⟨m, rfl, ?_⟩
    repeat cell_call
    refine st_iD (fun hm => ?_) (fun hm => ?_)
    · repeat cell_call
      refine st_iD (fun hd => ?_) (fun hd => ?_)
      · repeat cell_call
        refine ⟨y, m, rfl, ?_⟩
        repeat cell_call
        all_goals (refine q_of q ?_; congr 1; simp_all [dateOk])
      · all_goals (refine q_of q ?_; congr 1; simp_all [dateOk]; omega)
    · all_goals (refine q_of q ?_; congr 1; simp_all [dateOk]; omega)

def sp_show_date (K : PySem.W.Frag) : Sp := fun vs H Q _ => ∃ (D : Addr) (y m d : Int), vs = [.ref D] ∧ SqT K H D [.int y, .int m, .int d] ∧ y.natAbs < 2 ^ 200 ∧ m.natAbs < 2 ^ 200 ∧ d.natAbs < 2 ^ 200 ∧ Q (.str (dt3 y m d)) H
theorem ok_show_date (T : Txt K mg) : FnOk P w K mg base CX0 1 (He.ga K "show_date") T.fd_show_date ["date"] (sp_show_date K) := by
  refine T.F_show_date.ok sc_show_date (fun vs H Q E h => ?_) (fun cdv A outer s H vs Q E hr h => ?_)
  · obtain ⟨D, y, m, d, rfl, _⟩ := h
    rfl
  · obtain ⟨D, y, m, d, rfl, hD, b1, b2, b3, q⟩ := h
    refine ⟨_, PSs.nox (pss_cons (ps_asg (pv 0) (show PG _ _ (gTup K 3 _) from pg_tup rfl (pgs_cons (pg_name (i := 1) sc_show_date.nd rfl (Or.inl rfl)) (pgs_cons (pg_name (i := 2) sc_show_date.nd rfl (Or.inl rfl)) (pgs_cons (pg_name (i := 3) sc_show_date.nd rfl (Or.inl rfl)) pgs_nil)))))
      (pss_one (ps_ret (pe_fst (PJ.cons (pe_fmt (pv 1)) (PJ.cons pe_str (PJ.cons (pe_fmt (pv 2)) (PJ.cons pe_str (PJ.cons (pe_fmt (pv 3)) PJ.nil))))))))), ?_⟩
    rw [start_show_date]
    have l1 := iT_len b1
    have l2 := iT_len b2
    have l3 := iT_len b3
    have l4 : (Str.ofString "/").length = 1 := rfl
    have l5 : Str.empty.length = 0 := rfl
    repeat cell_call
    refine st_fmtI b1 (st_jsS (by simp only [PySem.Str.length_append]; omega) ?_)
    repeat cell_call
    refine st_jsS (by simp only [PySem.Str.length_append]; omega) ?_
    repeat cell_call
    refine st_fmtI b2 (st_jsS (by simp only [PySem.Str.length_append]; omega) ?_)
    repeat cell_call
    refine st_jsS (by simp only [PySem.Str.length_append]; omega) ?_
    repeat cell_call
    refine st_fmtI b3 (st_jsS (by simp only [PySem.Str.length_append]; omega) ?_)
    repeat cell_call
    rw [PySem.Str.empty_append]
    exact q

def sp_number_in (K : PySem.W.Frag) : Sp := fun vs H Q _ => ∃ w : Str, vs = [.str w] ∧ w.length ≤ 50000 ∧ ∀ H', Same H H' → Q (numV (numT w)) H'
theorem ok_number_in (T : Txt K mg) : FnOk P w K mg base CX0 1 (He.ga K "number_in") T.fd_number_in ["word"] (sp_number_in K) := by
  refine T.F_number_in.ok sc_number_in (fun vs H Q E h => ?_) (fun cdv A outer s H vs Q E hr h => ?_)
  · obtain ⟨w, rfl, _⟩ := h
    rfl
  · obtain ⟨w, rfl, hl, q⟩ := h
    refine ⟨_, PSs.nox (pss_cons (ps_set (i := 1) sc_number_in.nd rfl (Or.inl rfl) (pe_ifExp (pt_cmpR (show OpR _ _ (rIn K false) from op_in_seq) (pe_slice sl_str (pv 0) po_none (po_some pe_int)) (pe_tup (pa_cons pe_str (pa_cons pe_str pa_nil))) (by rfl)) (pe_slice sl_str (pv 0) (po_some pe_int) po_none) (pv 0)))
      (pss_cons (ps_if (PW.pt (pw_or (pt_not (pt_chain op_le op_le pe_int (pe_callB call_lenTx (by rfl) T.b_len PySem.boot_len (pa_cons (pv 1) pa_nil)) (pe_glob (v := .int (60)) rfl T.c_MOST_DIGITS.2 ⟨_, rfl⟩))) (pw_or1 (pt_not (pt_val (pe_callB (show CallR _ _ (rAll K) from (cr_all rfl)) (by rfl) T.b_all (by decide +kernel) (pa_cons (pe_lc (own := [("sign", 2)]) (g := gName 2) (tt := tYes) rfl sc_number_in.nd (pi_str (pv 1)) (blkOk_by (N := N_number_in) (sc := defScope s_number_in) (by decide +kernel)) (fun _ _ _ _ _ => (pg_name (i := 2) sc_number_in.nd rfl (Or.inl rfl))) (fun _ _ _ _ _ => pts_nil) (fun _ _ _ _ _ => (pe_cmpR op_inC (pv 2) (pe_glob (v := .str "0123456789") rfl T.c_DIGITS.2 ⟨_, rfl⟩) (by rfl)))) pa_nil))))))) (pss_one (ps_ret pe_non)) pss_nil)
      (pss_one (ps_ret (pe_callTy call_intT (by rfl) T.b_int (by decide +kernel) (pa_cons (pv 0) pa_nil)))))), ?_⟩
    rw [start_number_in]
    have wl : w.cps.toList.length = w.length := Array.length_toList
    repeat k_ownIn
    refine st_cutK (fun v H' => ∃ D, v = .str D ∧ D.cps.toList = cutSg w.cps.toList ∧ Same H H') ?_ ?_
    · rintro v H1 ⟨D, rfl, hD, F1⟩
      have dl : D.cps.toList.length = D.length := Array.length_toList
      have dl2 : (cutSg w.cps.toList).length ≤ w.cps.toList.length := by
        unfold cutSg
        split
        · rw [List.length_drop]
          omega
        · omega
      rw [hD] at dl
      repeat cell_call
      refine st_lenTx (by omega) ?_
      repeat cell_call
      refine st_iD (fun h1 => ?_) (fun h1 => ?_)
      · repeat cell_call
        refine st_iND (fun h2 => ?_) (fun h2 => ?_)
        · repeat cell_call
          refine q_of (q _ F1) ?_
          rw [numT, okD, decide_eq_false (p := (cutSg w.cps.toList).length ≤ 60) (by omega), Bool.false_and, Bool.and_false, if_neg Bool.false_ne_true]
          rfl
        · repeat cell_call
          intro C nC
          refine lcS (fun _ => true) (fun c => .bl (isDig c)) nC (by omega) (fun c H' R RF _ sm hy _ => ?_) (fun H' sm hC => ?_)
          · repeat cell_call
            rw [dig_in]
            exact hy rfl _ (Same.refl _)
          rw [show (D.cps.toList.filter fun _ => true) = D.cps.toList by simp, hD, show ((cutSg w.cps.toList).map fun c => V.bl (isDig c)) = ((cutSg w.cps.toList).map isDig).map V.bl by rw [List.map_map]; rfl] at hC
          repeat cell_call
          refine st_all (SqL.of hC) ?_
          repeat cell_call
          have ea : ((cutSg w.cps.toList).map isDig).all id = (cutSg w.cps.toList).all isDig := by
            rw [List.all_map]
            rfl
          rw [ea]
          have ok : okD (cutSg w.cps.toList) = (cutSg w.cps.toList).all isDig := by
            rw [okD, decide_eq_true (p := 1 ≤ (cutSg w.cps.toList).length) (by omega), decide_eq_true (p := (cutSg w.cps.toList).length ≤ 60) (by omega), Bool.true_and, Bool.true_and]
          rw [← ok]
          refine st_iNB (fun h3 => ?_) (fun h3 => ?_)
          · repeat cell_call
            refine q_of (q _ (same_tr sm F1)) ?_
            rw [numT, h3, if_neg Bool.false_ne_true]
            rfl
          · repeat cell_call
            refine st_intT h3 ?_
            refine q_of (q _ (same_tr sm F1)) ?_
            rw [numT, h3, if_pos rfl]
            rfl
      · repeat cell_call
        refine q_of (q _ F1) ?_
        rw [numT, okD, decide_eq_false (p := 1 ≤ (cutSg w.cps.toList).length) (by omega), Bool.false_and, if_neg Bool.false_ne_true]
        rfl
    · intro C hk
      repeat cell_call
      refine st_slS (by omega) ?_
      repeat cell_call
      intro p np
      refine st_in (.inr (SqT.of upd_same)) rfl rfl ?_
      rw [if_neg Bool.false_ne_true, in_sg]
      repeat cell_call
      refine st_iB (fun h1 => ?_) (fun h1 => ?_)
      · repeat cell_call
        refine st_slS (by omega) ?_
        refine hk _ _ ⟨_, rfl, ?_, Same.new np⟩
        rw [cps_tail, cutSg, if_pos h1]
      · repeat cell_call
        refine hk _ _ ⟨_, rfl, ?_, Same.new np⟩
        rw [cutSg, h1, if_neg Bool.false_ne_true]

theorem iteT' {c : Bool} {A B : Prop} (h : c = true) (a : A) : if c = true then A else B := by rw [if_pos h]; exact a
theorem iteF' {c : Bool} {A B : Prop} (h : c = false) (b : B) : if c = true then A else B := by rw [h, if_neg Bool.false_ne_true]; exact b
def sp_read_date (K : PySem.W.Frag) : Sp := fun vs H Q E => ∃ u : Str, vs = [.str u] ∧ u.length ≤ 50000 ∧
  (∀ y m d, rdP u = some (y, m, d) → ∀ p H', H p = none → Same H H' → H' p = some (.tup [.int y, .int m, .int d]) → Q (.ref p) H') ∧
  (rdP u = none → ∀ dx H', H' dx = none → Same H H' → E (.ref (He.ga K "Unreadable")) (some dx) (upd H' dx (.xd [(("value" : Str), .str u)])))
theorem ok_read_date (T : Txt K mg) : FnOk P w K mg base (L2N.CX P w) 4 (He.ga K "read_date") T.fd_read_date ["text"] (sp_read_date K) := by
  refine T.F_read_date.ok sc_read_date (fun vs H Q E h => ?_) (fun cdv A outer s H vs Q E hr h => ?_)
  · obtain ⟨u, rfl, _⟩ := h
    rfl
  · obtain ⟨u, rfl, hl, q, e⟩ := h
    refine ⟨_, (pss_cons (ps_setLc (i := 1) (own := [("word", 3)]) (g := gName 3) (tt := tYes) rfl sc_read_date.nd rfl rfl (sw_true rfl rfl rfl (by decide +kernel)) (show PI _ _ _ (iList K _) from pi_list (pe_split (pv 0) pe_str)) (blkOk_by (N := N_read_date) (sc := defScope s_read_date) (by decide +kernel)) (fun _ _ _ _ _ => (pg_name (i := 3) sc_read_date.nd rfl (Or.inl rfl))) (fun _ _ _ _ _ => pts_nil) (fun _ _ _ _ _ => (pe_call (ok_number_in T) (hr.mono (by decide)) rfl T.g_number_in T.F_number_in.kp (b_number_in T) .nil pass0 (pa_cons (pv 3) pa_nil))))
      (pss_cons (ps_if (PW.pt (pw_or (pt_cmpR op_neI (pe_callB (show CallR _ _ (rLenQ K) from call_lenQ) (by rfl) T.b_len PySem.boot_len (pa_cons (pv 1) pa_nil)) pe_int (nomark _)) (pw_or1 (pt_cmpR (show OpR _ _ (rIn K false) from op_in_seq) pe_non (pv 1) (by rfl))))) (pss_one (L2N.ps_raise rfl (L2N.takes_of rfl rfl rfl rfl) (pmkN T.e_Unreadable.oex T.e_Unreadable.iC T.e_Unreadable.tI (ok_Unreadable___init__ T) (hr.mono (by decide)) (b_Unreadable___init__ T) rfl T.g_Unreadable (pa_cons (pv 0) pa_nil)))) pss_nil)
      (pss_cons (ps_set (i := 2) sc_read_date.nd rfl (Or.inl rfl) (pe_callTy call_tuple_of (by rfl) T.b_tuple (by decide +kernel) (pa_cons (pv 1) pa_nil)))
      (pss_cons (ps_if (PW.pt (pw_or (pt_not (pt_val (pe_call (ok_is_date T) (hr.mono (by decide)) rfl T.g_is_date T.F_is_date.kp (b_is_date T) .nil pass0 (pa_cons (pv 2) pa_nil)))) (pw_or1 (pt_cmpR op_ne (pe_call (ok_show_date T) (hr.mono (by decide)) rfl T.g_show_date T.F_show_date.kp (b_show_date T) .nil pass0 (pa_cons (pv 2) pa_nil)) (pv 0) (nomark _))))) (pss_one (L2N.ps_raise rfl (L2N.takes_of rfl rfl rfl rfl) (pmkN T.e_Unreadable.oex T.e_Unreadable.iC T.e_Unreadable.tI (ok_Unreadable___init__ T) (hr.mono (by decide)) (b_Unreadable___init__ T) rfl T.g_Unreadable (pa_cons (pv 0) pa_nil)))) pss_nil)
      (pss_one (ps_ret (pv 2))))))), ?_⟩
    rw [start_read_date]
    obtain ⟨sb, sl⟩ := split_bd u
    repeat cell_call
    refine st_m1 ?_
    repeat cell_call
    refine st_split (by decide) (by omega) fun p1 n1 => ?_
    have hr0 : rdP u = match (Txt.split u "/").map numT with
      | [some y, some m, some d] => if dateOk y m d = true ∧ dt3 y m d = u then some (y, m, d) else none
      | _ => none := rfl
    have hn := rdP_len (u := u)
    generalize Txt.split u "/" = ws at *
    have smX : Same H (upd H p1 (.lst (ws.map V.str))) := Same.new n1
    have h1 : (upd H p1 (.lst (ws.map V.str))) p1 = some (.lst (ws.map V.str)) := upd_same
    generalize upd H p1 (.lst (ws.map V.str)) = HX at *
    clear n1
    repeat cell_call
    refine ⟨⟨_, SqL.of h1⟩, fun C nC => ?_⟩
    refine lc_list (xs := ws.map V.str) (fun i H' => Same HX H' ∧ H' C = some (.lst (((ws.take i).map numT).map numV))) ⟨Same.new nC, upd_same⟩ (fun i H' _ e => e.1.seq (SqL.of h1)) (fun i x H' hx e => ?_) (fun H' e => ?_)
    · obtain ⟨sm, hC⟩ := e
      rw [List.getElem?_map] at hx
      obtain ⟨k, gk, rfl⟩ := Option.map_eq_some_iff.mp hx
      have hi := (List.getElem?_eq_some_iff.mp gk).1
      have hk := (sb k (List.mem_of_getElem? gk)).1
      repeat cell_call
      refine ⟨k, rfl, by omega, fun H2 F2 => ?_⟩
      refine ⟨_, F2 _ _ hC, len_lt (by rw [List.length_map, List.length_map, List.length_take]; omega), same_trU nC (same_tr F2 sm), ?_⟩
      rw [upd_same, List.take_add_one, gk, List.map_append, List.map_append]
      rfl
    · obtain ⟨sm, hC⟩ := e
      rw [List.length_map, List.take_length] at hC
      have smA := same_tr sm smX
      clear sm smX h1 nC sb
      repeat cell_call
      rw [List.length_map, List.length_map]
      refine st_iND (fun h1 => ?_) (fun h1 => ?_)
      · repeat cell_call
        exact st_mkE T.e_Unreadable fun dx nd => e (hn (by omega)) dx _ nd smA
      · repeat cell_call
        refine st_in (.inl (SqL.of hC)) rfl (flat_num _) ?_
        rw [if_neg Bool.false_ne_true, in_num]
        obtain ⟨a, b, c, rfl⟩ : ∃ a b c, ws = [a, b, c] := by
          match ws, h1 with
          | [a, b, c], _ => exact ⟨a, b, c, rfl⟩
          | [], h1 => cases h1
          | [a], h1 => cases h1
          | [a, b], h1 => cases h1
          | a :: b :: c :: d :: r, h1 =>
            simp only [List.length_cons] at h1
            omega
        simp only [List.map_cons, List.map_nil, List.any_cons, List.any_nil, Bool.or_false] at hC hr0 ⊢
        cases e1 : numT a with
        | none =>
          simp only [e1] at hr0 ⊢
          repeat cell_call
          refine iteT' (by rfl) ?_
          repeat cell_call
          exact st_mkE T.e_Unreadable fun dx nd => e hr0 dx _ nd smA
        | some y =>
        cases e2 : numT b with
        | none =>
          simp only [e1, e2] at hr0 ⊢
          repeat cell_call
          refine iteT' (by rfl) ?_
          repeat cell_call
          exact st_mkE T.e_Unreadable fun dx nd => e hr0 dx _ nd smA
        | some m =>
        cases e3 : numT c with
        | none =>
          simp only [e1, e2, e3] at hr0 ⊢
          repeat cell_call
          refine iteT' (by rfl) ?_
          repeat cell_call
          exact st_mkE T.e_Unreadable fun dx nd => e hr0 dx _ nd smA
        | some d =>
        have b1 := big_60 (numT_bd e1)
        have b2 := big_60 (numT_bd e2)
        have b3 := big_60 (numT_bd e3)
        simp only [e1, e2, e3] at hC hr0 ⊢
        replace hC : H' C = some (.lst [.int y, .int m, .int d]) := hC
        clear e1 e2 e3 hl sl h1
        repeat cell_call
        refine iteF' (by rfl) ?_
        repeat cell_call
        refine ⟨_, _, rfl, .inl ⟨SqL.of hC, fun D nD => ?_⟩⟩
        have sm1 : Same H (upd H' D (.tup [.int y, .int m, .int d])) := same_trN nD smA
        have hD : (upd H' D (.tup [.int y, .int m, .int d])) D = some (.tup [.int y, .int m, .int d]) := upd_same
        have nD0 : H D = none := same_free nD smA
        generalize upd H' D (.tup [.int y, .int m, .int d]) = H2 at *
        clear nD hC smA
        repeat cell_call
        refine ⟨D, y, m, d, rfl, SqT.of hD, ?_⟩
        repeat cell_call
        refine st_iNB (fun ho => ?_) (fun ho => ?_)
        · rw [if_neg (fun z => by rw [ho] at z; cases z.1)] at hr0
          repeat cell_call
          exact st_mkE T.e_Unreadable fun dx nd => e hr0 dx _ nd sm1
        · repeat cell_call
          refine ⟨D, y, m, d, rfl, SqT.of hD, b1, b2, b3, ?_⟩
          repeat cell_call
          refine st_iND (fun hu => ?_) (fun hu => ?_)
          · rw [if_neg (fun z => hu (by rw [z.2]))] at hr0
            repeat cell_call
            exact st_mkE T.e_Unreadable fun dx nd => e hr0 dx _ nd sm1
          · rw [if_pos ⟨ho, V.str.inj hu⟩] at hr0
            repeat cell_call
            exact q y m d hr0 D _ nD0 sm1 hD

end
end Mc
namespace Mc
open PySem PySem.Spec PyProof.Rows L2
open HotX L2H
local macro_rules | `(tactic| lcg_src) => `(tactic| first
  | with_reducible assumption
  | ((with_reducible apply Ne.symm); with_reducible assumption)
  | ((with_reducible apply ne_nf); (with_reducible assumption); lcg_off)
  | ((with_reducible apply Ne.symm); (with_reducible apply ne_nf); (with_reducible assumption); lcg_off))
local macro_rules | `(tactic| lcg_off) => `(tactic| first
  | with_reducible assumption
  | (with_reducible exact upd_same)
  | ((with_reducible apply hp_ne); lcg_src; lcg_off)
  | ((with_reducible apply hp_same); (with_reducible assumption); lcg_off)
  | ((with_reducible apply hp_frm); (with_reducible assumption); lcg_src; lcg_off)
  | ((with_reducible apply hp_frm2); (with_reducible assumption); lcg_src; lcg_src; lcg_off)
  | assumption)
local macro_rules | `(tactic| kpt_turns) => `(tactic| first
  | with_reducible assumption
  | ((with_reducible apply SqL.of); lcg_off)
  | ((with_reducible apply SqT.of); lcg_off)
  | ((with_reducible apply Frm.seq); (with_reducible assumption); lcg_src; kpt_turns)
  | ((with_reducible apply Frm.tup); (with_reducible assumption); lcg_src; kpt_turns)
  | ((with_reducible apply Frm2.seq); (with_reducible assumption); lcg_src; lcg_src; kpt_turns)
  | ((with_reducible apply Frm2.tup); (with_reducible assumption); lcg_src; lcg_src; kpt_turns)
  | ((with_reducible apply L2.Same.seq); (with_reducible assumption); kpt_turns)
  | ((with_reducible apply Same.tup); (with_reducible assumption); kpt_turns)
  | assumption)
local macro_rules | `(tactic| k_memK) => `(tactic| first
  | with_reducible exact Frm.refl _
  | with_reducible assumption
  | ((with_reducible apply Frm.trN); (with_reducible assumption); k_memK)
  | ((with_reducible apply Frm.trU); k_memK)
  | ((with_reducible apply Frm.trM); (with_reducible assumption); k_memK)
  | ((with_reducible apply Frm.tr); (with_reducible assumption); k_memK)
  | ((with_reducible apply Frm.trS); (with_reducible assumption); k_memK)
  | with_reducible exact Frm2.refl _
  | ((with_reducible apply Frm2.trN); (with_reducible assumption); k_memK)
  | ((with_reducible apply Frm2.trU); k_memK)
  | ((with_reducible apply Frm2.trV); k_memK)
  | ((with_reducible apply Frm2.trM); (with_reducible assumption); k_memK)
  | ((with_reducible apply Frm2.tr); (with_reducible assumption); k_memK)
  | ((with_reducible apply Frm2.trS); (with_reducible assumption); k_memK))
local macro_rules | `(tactic| k_allIn) => `(tactic| first
  | with_reducible exact L2.Same.refl _
  | with_reducible assumption
  | ((with_reducible apply same_trN); (with_reducible assumption); k_allIn)
  | ((with_reducible apply same_trU); (with_reducible assumption); k_allIn)
  | ((with_reducible apply same_tr); (with_reducible assumption); k_allIn))
local macro_rules | `(tactic| k_ownIn) => `(tactic| first
  | with_reducible refine st_seq ?_
  | ((with_reducible refine' st_setF ?e ?_); (case e => intro x; (simp only [List.set_cons_zero, List.set_cons_succ]; exact rfl)))
  | with_reducible refine st_c ?_
  | ((with_reducible refine' st_var ?h ?_); (case h => exact rfl))
  | with_reducible refine st_op ?_
  | with_reducible refine st_I0 ?_
  | ((with_reducible refine' st_powL ?c ?e ?_); (case c => exact ⟨by decide, by decide, by decide⟩); (case e => (simp only [Int.reduceToNat, Int.reducePow]; exact rfl)))
  | ((with_reducible refine st_I ?h ?_); (case h => first | with_reducible assumption | (show (0 : Int) < _; omega) | exact ⟨by omega, by omega⟩ | exact .inl ⟨by omega, by omega⟩ | exact .inr ⟨by omega, by omega⟩ | exact ⟨by omega, by omega, by omega⟩))
  | with_reducible refine st_nil ?_
  | with_reducible refine st_cons ?_
  | with_reducible refine st_ret ?_
  | with_reducible refine st_call ?_
  | with_reducible refine st_cb ?_
  | with_reducible refine st_exb ?_
  | ((with_reducible refine' st_ixL ?h1 ?h2 ?_); (case h1 => kpt_turns); (case h2 => first | ((with_reducible apply at0); exact rfl) | ((with_reducible apply at1); exact rfl) | ((with_reducible apply at2); exact rfl) | ((with_reducible apply at3); exact rfl) | with_reducible assumption))
  | ((with_reducible refine' st_ixT ?h1 ?h2 ?_); (case h1 => kpt_turns); (case h2 => first | ((with_reducible apply at0); exact rfl) | ((with_reducible apply at1); exact rfl) | ((with_reducible apply at2); exact rfl) | with_reducible assumption))
  | ((with_reducible refine' st_ixP ?h1 ?h2 ?h3 ?h4 ?_); (case h1 => kpt_turns); (case h2 => (repeat constructor)); (case h3 => omega); (case h4 => (simp; omega)))
  | ((with_reducible refine' st_ixPT ?h1 ?h2 ?h3 ?h4 ?_); (case h1 => kpt_turns); (case h2 => (repeat constructor)); (case h3 => omega); (case h4 => (simp; omega)))
  | with_reducible refine st_tB ?_
  | with_reducible refine st_test ?_
  | with_reducible refine st_and ?_
  | with_reducible refine st_or ?_
  | with_reducible refine st_not ?_
  | with_reducible refine st_andV ?_
  | with_reducible refine st_orV ?_
  | with_reducible refine st_notV ?_
  | with_reducible refine st_chain ?_
  | with_reducible refine st_iT ?_
  | with_reducible refine st_iF ?_
  | with_reducible refine st_iNT ?_
  | with_reducible refine st_iNF ?_
  | with_reducible refine st_iRf ?_
  | with_reducible refine st_iNRf ?_
  | with_reducible refine st_asg ?_
  | ((with_reducible refine' st_parF ?e ?_); (case e => intro x y; (simp only [List.set_cons_zero, List.set_cons_succ]; exact rfl)))
  | with_reducible refine st_par2 ?_
  | with_reducible refine st_fst ?_
  | with_reducible refine st_jsE ?_
  | with_reducible refine st_js ?_
  | with_reducible refine st_fmt ?_
  | with_reducible refine st_joinK ?_
  | with_reducible refine st_strx ?_
  | ((with_reducible refine' st_par3F ?e ?_); (case e => intro x y z; (simp only [List.set_cons_zero, List.set_cons_succ]; exact rfl)))
  | with_reducible refine st_par3 ?_
  | ((with_reducible refine' st_augF ?h ?e ?_); (case h => exact rfl); (case e => intro x; (simp only [List.set_cons_zero, List.set_cons_succ]; exact rfl)))
  | with_reducible refine st_ipI ?_
  | with_reducible refine st_drop ?_
  | with_reducible refine st_next ?_
  | with_reducible refine st_un ?_
  | with_reducible refine st_U ?_
  | ((with_reducible refine' st_gNF ?e ?_); (case e => (simp only [List.set_cons_zero, List.set_cons_succ]; exact rfl)))
  | with_reducible refine st_gN ?_
  | ((with_reducible refine' st_gT ?h1 ?h2 ?_); (case h1 => kpt_turns); (case h2 => exact rfl))
  | with_reducible refine st_gC ?_
  | with_reducible refine st_gE ?_
  | with_reducible refine st_gS ?_
  | ((with_reducible refine' st_setL ?h1 ?h2 ?_); (case h1 => lcg_off); (case h2 => exact rfl))
  | with_reducible refine st_lst ?_
  | with_reducible refine st_tup ?_
  | ((with_reducible refine st_new ?h ?_); (case h => (simp; done)))
  | with_reducible refine st_callN ?_
  | with_reducible refine st_bm ?_
  | with_reducible refine st_bm0 ?_
  | ((with_reducible refine' st_tyL ?h ?_); (case h => kpt_turns))
  | ((with_reducible refine st_eq ?h ?_); (case h => exact rfl))
  | ((with_reducible refine st_ne ?h ?_); (case h => exact rfl))
  | with_reducible refine st_i1 ?_
  | with_reducible refine st_i2 ?_
  | with_reducible refine st_int ?_
  | with_reducible refine st_intb ?_
  | ((with_reducible refine' st_lenQ ?h ?_); (case h => kpt_turns))
  | ((with_reducible refine' st_lenQT ?h ?_); (case h => kpt_turns))
  | with_reducible refine st_yes ?_
  | with_reducible refine st_brk ?_
  | with_reducible refine st_cont ?_
  | with_reducible refine st_retN ?_
  | with_reducible refine st_forI ?_
  | with_reducible refine st_lcI ?_
  | with_reducible refine st_itL ?_
  | with_reducible refine st_itT ?_
  | with_reducible refine st_rng1 ?_
  | with_reducible refine st_rng2 ?_
  | with_reducible refine st_ref ?_
  | with_reducible refine st_sl ?_
  | with_reducible refine st_pN ?_
  | with_reducible refine st_pS ?_
  | with_reducible refine st_pI ?_
  | (refine ⟨rfl, ?_⟩))
local macro_rules | `(tactic| cell_call) => `(tactic| first
  | with_reducible refine st_seq ?_
  | ((with_reducible refine' st_setF ?e ?_); (case e => intro x; (simp only [List.set_cons_zero, List.set_cons_succ]; exact rfl)))
  | with_reducible refine st_c ?_
  | ((with_reducible refine' st_var ?h ?_); (case h => exact rfl))
  | with_reducible refine st_op ?_
  | with_reducible refine st_I0 ?_
  | ((with_reducible refine' st_powL ?c ?e ?_); (case c => exact ⟨by decide, by decide, by decide⟩); (case e => (simp only [Int.reduceToNat, Int.reducePow]; exact rfl)))
  | ((with_reducible refine st_I ?h ?_); (case h => first | with_reducible assumption | (show (0 : Int) < _; omega) | exact ⟨by omega, by omega⟩ | exact .inl ⟨by omega, by omega⟩ | exact .inr ⟨by omega, by omega⟩ | exact ⟨by omega, by omega, by omega⟩))
  | with_reducible refine st_nil ?_
  | with_reducible refine st_cons ?_
  | with_reducible refine st_ret ?_
  | with_reducible refine st_call ?_
  | with_reducible refine st_cb ?_
  | with_reducible refine st_exb ?_
  | ((with_reducible refine' st_ixL ?h1 ?h2 ?_); (case h1 => kpt_turns); (case h2 => first | ((with_reducible apply at0); exact rfl) | ((with_reducible apply at1); exact rfl) | ((with_reducible apply at2); exact rfl) | ((with_reducible apply at3); exact rfl) | with_reducible assumption))
  | ((with_reducible refine' st_ixT ?h1 ?h2 ?_); (case h1 => kpt_turns); (case h2 => first | ((with_reducible apply at0); exact rfl) | ((with_reducible apply at1); exact rfl) | ((with_reducible apply at2); exact rfl) | with_reducible assumption))
  | ((with_reducible refine' st_ixP ?h1 ?h2 ?h3 ?h4 ?_); (case h1 => kpt_turns); (case h2 => (repeat constructor)); (case h3 => omega); (case h4 => (simp; omega)))
  | ((with_reducible refine' st_ixPT ?h1 ?h2 ?h3 ?h4 ?_); (case h1 => kpt_turns); (case h2 => (repeat constructor)); (case h3 => omega); (case h4 => (simp; omega)))
  | with_reducible refine st_tB ?_
  | with_reducible refine st_test ?_
  | with_reducible refine st_and ?_
  | with_reducible refine st_or ?_
  | with_reducible refine st_not ?_
  | with_reducible refine st_andV ?_
  | with_reducible refine st_orV ?_
  | with_reducible refine st_notV ?_
  | with_reducible refine st_chain ?_
  | with_reducible refine st_iT ?_
  | with_reducible refine st_iF ?_
  | with_reducible refine st_iNT ?_
  | with_reducible refine st_iNF ?_
  | with_reducible refine st_iRf ?_
  | with_reducible refine st_iNRf ?_
  | with_reducible refine st_asg ?_
  | ((with_reducible refine' st_parF ?e ?_); (case e => intro x y; (simp only [List.set_cons_zero, List.set_cons_succ]; exact rfl)))
  | with_reducible refine st_par2 ?_
  | with_reducible refine st_fst ?_
  | with_reducible refine st_jsE ?_
  | with_reducible refine st_js ?_
  | with_reducible refine st_fmt ?_
  | with_reducible refine st_joinK ?_
  | with_reducible refine st_strx ?_
  | ((with_reducible refine' st_par3F ?e ?_); (case e => intro x y z; (simp only [List.set_cons_zero, List.set_cons_succ]; exact rfl)))
  | with_reducible refine st_par3 ?_
  | ((with_reducible refine' st_augF ?h ?e ?_); (case h => exact rfl); (case e => intro x; (simp only [List.set_cons_zero, List.set_cons_succ]; exact rfl)))
  | with_reducible refine st_ipI ?_
  | with_reducible refine st_drop ?_
  | with_reducible refine st_next ?_
  | with_reducible refine st_un ?_
  | with_reducible refine st_U ?_
  | ((with_reducible refine' st_gNF ?e ?_); (case e => (simp only [List.set_cons_zero, List.set_cons_succ]; exact rfl)))
  | with_reducible refine st_gN ?_
  | ((with_reducible refine' st_gT ?h1 ?h2 ?_); (case h1 => kpt_turns); (case h2 => exact rfl))
  | with_reducible refine st_gC ?_
  | with_reducible refine st_gE ?_
  | with_reducible refine st_gS ?_
  | ((with_reducible refine' st_setL ?h1 ?h2 ?_); (case h1 => lcg_off); (case h2 => exact rfl))
  | with_reducible refine st_lst ?_
  | with_reducible refine st_tup ?_
  | ((with_reducible refine st_new ?h ?_); (case h => (simp; done)))
  | with_reducible refine st_callN ?_
  | with_reducible refine st_bm ?_
  | with_reducible refine st_bm0 ?_
  | ((with_reducible refine' st_tyL ?h ?_); (case h => kpt_turns))
  | ((with_reducible refine st_eq ?h ?_); (case h => exact rfl))
  | ((with_reducible refine st_ne ?h ?_); (case h => exact rfl))
  | with_reducible refine st_i1 ?_
  | with_reducible refine st_i2 ?_
  | with_reducible refine st_int ?_
  | with_reducible refine st_intb ?_
  | ((with_reducible refine' st_lenQ ?h ?_); (case h => kpt_turns))
  | ((with_reducible refine' st_lenQT ?h ?_); (case h => kpt_turns))
  | with_reducible refine st_yes ?_
  | with_reducible refine st_brk ?_
  | with_reducible refine st_cont ?_
  | with_reducible refine st_retN ?_
  | with_reducible refine st_forI ?_
  | with_reducible refine st_lcI ?_
  | with_reducible refine st_itL ?_
  | with_reducible refine st_itT ?_
  | with_reducible refine st_rng1 ?_
  | with_reducible refine st_rng2 ?_
  | with_reducible refine st_ref ?_
  | with_reducible refine st_sl ?_
  | with_reducible refine st_pN ?_
  | with_reducible refine st_pS ?_
  | with_reducible refine st_pI ?_
  | (refine ⟨rfl, ?_⟩)
  | with_reducible refine st_ifE ?_
  | with_reducible refine st_ifS ?_)
local macro_rules | `(tactic| kpf_close) => `(tactic| first
  | cell_call
  | refine st_iD (fun _ => ?_) (fun _ => ?_)
  | refine st_iND (fun _ => ?_) (fun _ => ?_)
  | refine st_iNB (fun _ => ?_) (fun _ => ?_)
  | refine st_iB (fun _ => ?_) (fun _ => ?_))
local macro_rules | `(tactic| k_places) => `(tactic| first
  | with_reducible refine isi_non_bool ?_
  | with_reducible refine isi_non_int ?_
  | with_reducible refine isi_non_str ?_
  | with_reducible refine isi_non_list ?_
  | with_reducible refine isi_non_tuple ?_
  | with_reducible refine isi_bl_bool ?_
  | with_reducible refine isi_bl_int ?_
  | with_reducible refine isi_bl_str ?_
  | with_reducible refine isi_bl_list ?_
  | with_reducible refine isi_bl_tuple ?_
  | with_reducible refine isi_int_bool ?_
  | with_reducible refine isi_int_int ?_
  | with_reducible refine isi_int_str ?_
  | with_reducible refine isi_int_list ?_
  | with_reducible refine isi_int_tuple ?_
  | with_reducible refine isi_str_bool ?_
  | with_reducible refine isi_str_int ?_
  | with_reducible refine isi_str_str ?_
  | with_reducible refine isi_str_list ?_
  | with_reducible refine isi_str_tuple ?_
  | ((with_reducible refine' isi_list_bool ?h ?_); (case h => kpt_turns))
  | ((with_reducible refine' isi_list_int ?h ?_); (case h => kpt_turns))
  | ((with_reducible refine' isi_list_str ?h ?_); (case h => kpt_turns))
  | ((with_reducible refine' isi_list_list ?h ?_); (case h => kpt_turns))
  | ((with_reducible refine' isi_list_tuple ?h ?_); (case h => kpt_turns))
  | ((with_reducible refine' isi_tuple_bool ?h ?_); (case h => kpt_turns))
  | ((with_reducible refine' isi_tuple_int ?h ?_); (case h => kpt_turns))
  | ((with_reducible refine' isi_tuple_str ?h ?_); (case h => kpt_turns))
  | ((with_reducible refine' isi_tuple_list ?h ?_); (case h => kpt_turns))
  | ((with_reducible refine' isi_tuple_tuple ?h ?_); (case h => kpt_turns)))
local macro_rules | `(tactic| cell_call) => `(tactic| first
  | with_reducible refine st_zip ?_)
local macro_rules | `(tactic| k_ownIn) => `(tactic| first
  | with_reducible refine st_zip ?_)
local macro_rules | `(tactic| cell_call) => `(tactic| first
  | with_reducible refine st_veI ?_
  | with_reducible refine st_ost ?_
  | with_reducible refine st_mko ?_
  | with_reducible refine st_xv ?_
  | with_reducible refine st_lrg ?_
  | with_reducible refine st_callS ?_
  | with_reducible refine st_rg2 ?_
  | with_reducible refine st_rgE ?_)
local macro_rules | `(tactic| k_ownIn) => `(tactic| first
  | with_reducible refine st_veI ?_
  | with_reducible refine st_ost ?_
  | with_reducible refine st_mko ?_
  | with_reducible refine st_xv ?_
  | with_reducible refine st_lrg ?_
  | with_reducible refine st_callS ?_
  | with_reducible refine st_rg2 ?_
  | with_reducible refine st_rgE ?_)
local macro_rules | `(tactic| cell_call) => `(tactic| first
  | with_reducible refine st_inC ?_
  | with_reducible refine st_itS ?_
  | with_reducible refine st_itS1 ?_)
local macro_rules | `(tactic| k_ownIn) => `(tactic| first
  | with_reducible refine st_inC ?_
  | with_reducible refine st_itS ?_
  | with_reducible refine st_itS1 ?_)
local macro_rules | `(tactic| cell_call) => `(tactic| first
  | with_reducible refine st_notInC ?_
  | with_reducible refine st_turnS ?_
  | with_reducible refine st_callT ?_)
local macro_rules | `(tactic| k_ownIn) => `(tactic| first
  | with_reducible refine st_notInC ?_
  | with_reducible refine st_turnS ?_
  | with_reducible refine st_callT ?_)
section
variable {P : Program} {w : World} {K : PySem.W.Frag} {mg : Str → Option Value} {base : Heap}
/-- the names of the classes, by what isinstance says -/
def nmL (bs : List (Str × Bool)) : List V := (bs.filter (·.2)).map fun z => .str z.1
theorem nmL_len (bs : List (Str × Bool)) : (nmL bs).length ≤ bs.length := by
  unfold nmL
  rw [List.length_map]
  exact List.length_filter_le _ _
def sp_law_error (K : PySem.W.Frag) : Addr × Obj → Sp := fun p vs H Q _ => ∃ (C dx : Addr) (v : V) (b1 b2 b3 b4 : Bool), vs = [.ref p.1] ∧ Zc (.ref C) (some dx) p.2 ∧ ExcK K C ∧ H dx = some (.xd [(("value" : Str), v)]) ∧
  PySem.W.kitOne K (.ref C) (.ref (He.ga K "InvalidDate")) = some b1 ∧ PySem.W.kitOne K (.ref C) (.ref (He.ga K "InvalidNumber")) = some b2 ∧ PySem.W.kitOne K (.ref C) (.ref (He.ga K "NothingToUndo")) = some b3 ∧ PySem.W.kitOne K (.ref C) (.ref (He.ga K "Unreadable")) = some b4 ∧
  PySem.W.kitOne K (.ref C) (.ref (He.ga K "DateError")) = some true ∧ PySem.W.kitOne K (.ref C) (.type "ValueError") = some true ∧
  ∀ q H', H q = none → Same H H' → H' q = some (.lst (nmL [("InvalidDate", b1), ("InvalidNumber", b2), ("NothingToUndo", b3), ("Unreadable", b4)] ++ [v, .bl true])) → Q (.ref q) H'
theorem ok_law_error (T : Txt K mg) : FnE P w K mg base 2 (He.ga K "_law_error") T.fd_law_error ["e"] (sp_law_error K) := by
  refine okE T.F_law_error sc_law_error (fun p vs H Q E h => ?_) (fun cdv A outer s H vs Q E a oe hot hr h => ?_)
  · obtain ⟨C, dx, v, b1, b2, b3, b4, rfl, _⟩ := h
    rfl
  · obtain ⟨C, dx, v, b1, b2, b3, b4, rfl, hz, TE, hx, k1, k2, k3, k4, k5, k6, q⟩ := h
    have hf := hot_data hot
    generalize ecls : Value.ref C = cls at hz
    generalize ed : some dx = d at hz
    refine ⟨_, (pss_cons (ps_set (i := 1) sc_law_error.nd rfl (Or.inl rfl) (pe_lst (pa_cons (pe_tup (pa_cons pe_str (pa_cons (pe_callB (show CallR _ _ (rIsX K a cls d) from call_isX List.mem_cons_self hz hf) (by rfl) T.b_isinstance (by decide +kernel) (pa_cons (pv 0) (pa_cons (pe_glob (v := .ref (He.ga K "InvalidDate")) rfl T.g_InvalidDate rfl) pa_nil))) pa_nil))) (pa_cons (pe_tup (pa_cons pe_str (pa_cons (pe_callB (show CallR _ _ (rIsX K a cls d) from call_isX List.mem_cons_self hz hf) (by rfl) T.b_isinstance (by decide +kernel) (pa_cons (pv 0) (pa_cons (pe_glob (v := .ref (He.ga K "InvalidNumber")) rfl T.g_InvalidNumber rfl) pa_nil))) pa_nil))) pa_nil))))
      (pss_cons (ps_set (i := 1) sc_law_error.nd rfl (Or.inl rfl) (pe_op op_cat (pv 1) (pe_lst (pa_cons (pe_tup (pa_cons pe_str (pa_cons (pe_callB (show CallR _ _ (rIsX K a cls d) from call_isX List.mem_cons_self hz hf) (by rfl) T.b_isinstance (by decide +kernel) (pa_cons (pv 0) (pa_cons (pe_glob (v := .ref (He.ga K "NothingToUndo")) rfl T.g_NothingToUndo rfl) pa_nil))) pa_nil))) (pa_cons (pe_tup (pa_cons pe_str (pa_cons (pe_callB (show CallR _ _ (rIsX K a cls d) from call_isX List.mem_cons_self hz hf) (by rfl) T.b_isinstance (by decide +kernel) (pa_cons (pv 0) (pa_cons (pe_glob (v := .ref (He.ga K "Unreadable")) rfl T.g_Unreadable rfl) pa_nil))) pa_nil))) pa_nil)))))
      (pss_cons (ps_setLcH (i := 2) (own := [("name", 3), ("is_one", 4)]) ⟨(a, oe), ⟨hot.1, hot.2⟩, List.mem_cons_self⟩ sc_law_error.nd rfl rfl (sw_true rfl rfl rfl (by decide +kernel)) (show PIH _ _ _ (iList K _) from pi_listH (pv 1)) (blkOk_by (N := N_law_error) (sc := defScope s_law_error) (by decide +kernel)) (fun _ _ _ _ _ => (show PG _ _ (gTup K 2 _) from pg_tupH ⟨(a, oe), ⟨hot.1, hot.2⟩, List.mem_cons_self⟩ (pgs_cons (pg_name (i := 3) sc_law_error.nd rfl (Or.inl rfl)) (pgs_cons (pg_name (i := 4) sc_law_error.nd rfl (Or.inl rfl)) pgs_nil)))) (fun _ _ _ _ _ => (pts_one (pt_val (pv 4)))) (fun _ _ _ _ _ => (pv 3)))
      (pss_one (ps_ret (pe_op op_cat (pv 2) (pe_lst (pa_cons (pe_xv List.mem_cons_self hz hf (pv 0)) (pa_cons (pe_and (pe_callB (show CallR _ _ (rIsX K a cls d) from call_isX List.mem_cons_self hz hf) (by rfl) T.b_isinstance (by decide +kernel) (pa_cons (pv 0) (pa_cons (pe_glob (v := .ref (He.ga K "DateError")) rfl T.g_DateError rfl) pa_nil))) (pe_one (pe_callB (show CallR _ _ (rIsX K a cls d) from call_isX List.mem_cons_self hz hf) (by rfl) T.b_isinstance (by decide +kernel) (pa_cons (pv 0) (pa_cons (pe_bltn (v := .ty "ValueError") (by rfl) T.b_ValueError (by decide +kernel) rfl) pa_nil))))) pa_nil))))))))), ?_⟩
    rw [start_law_error]
    subst ecls ed
    repeat cell_call
    refine st_isX TE hx rel_ref k1 ?_
    repeat cell_call
    intro t1 n1
    have g1 : (upd H t1 (.tup [.str "InvalidDate", .bl b1])) t1 = some (.tup [.str "InvalidDate", .bl b1]) := upd_same
    have x1 : (upd H t1 (.tup [.str "InvalidDate", .bl b1])) dx = some (.xd [(("value" : Str), v)]) := hp_ne (ne_of_none hx n1) hx
    have sm1 : Same H (upd H t1 (.tup [.str "InvalidDate", .bl b1])) := Same.new n1
    generalize upd H t1 (.tup [.str "InvalidDate", .bl b1]) = H1 at *
    clear hx n1
    repeat cell_call
    refine st_isX TE x1 rel_ref k2 ?_
    repeat cell_call
    intro t2 n2
    have g2 : (upd H1 t2 (.tup [.str "InvalidNumber", .bl b2])) t2 = some (.tup [.str "InvalidNumber", .bl b2]) := upd_same
    have x2 := hp_ne (o' := .tup [.str "InvalidNumber", .bl b2]) (ne_of_none x1 n2) x1
    have h1 := hp_ne (o' := .tup [.str "InvalidNumber", .bl b2]) (ne_of_none g1 n2) g1
    have sm2 : Same H (upd H1 t2 (.tup [.str "InvalidNumber", .bl b2])) := same_trN n2 sm1
    generalize upd H1 t2 (.tup [.str "InvalidNumber", .bl b2]) = H2 at *
    clear x1 n2 g1 sm1
    repeat cell_call
    intro l1 m1
    have j1 := hp_ne (o' := .lst [.ref t1, .ref t2]) (ne_of_none h1 m1) h1
    have j2 := hp_ne (o' := .lst [.ref t1, .ref t2]) (ne_of_none g2 m1) g2
    have x3 := hp_ne (o' := .lst [.ref t1, .ref t2]) (ne_of_none x2 m1) x2
    have gl1 : (upd H2 l1 (.lst [.ref t1, .ref t2])) l1 = some (.lst [.ref t1, .ref t2]) := upd_same
    have sm3 : Same H (upd H2 l1 (.lst [.ref t1, .ref t2])) := same_trN m1 sm2
    generalize upd H2 l1 (.lst [.ref t1, .ref t2]) = H3 at *
    clear h1 g2 x2 m1 sm2
    repeat cell_call
    refine st_isX TE x3 rel_ref k3 ?_
    repeat cell_call
    intro t3 n3
    have g3 : (upd H3 t3 (.tup [.str "NothingToUndo", .bl b3])) t3 = some (.tup [.str "NothingToUndo", .bl b3]) := upd_same
    have x4 := hp_ne (o' := .tup [.str "NothingToUndo", .bl b3]) (ne_of_none x3 n3) x3
    have i1 := hp_ne (o' := .tup [.str "NothingToUndo", .bl b3]) (ne_of_none j1 n3) j1
    have i2 := hp_ne (o' := .tup [.str "NothingToUndo", .bl b3]) (ne_of_none j2 n3) j2
    have gl2 := hp_ne (o' := .tup [.str "NothingToUndo", .bl b3]) (ne_of_none gl1 n3) gl1
    have sm4 : Same H (upd H3 t3 (.tup [.str "NothingToUndo", .bl b3])) := same_trN n3 sm3
    generalize upd H3 t3 (.tup [.str "NothingToUndo", .bl b3]) = H4 at *
    clear x3 n3 j1 j2 gl1 sm3
    repeat cell_call
    refine st_isX TE x4 rel_ref k4 ?_
    repeat cell_call
    intro t4 n4
    have g4 : (upd H4 t4 (.tup [.str "Unreadable", .bl b4])) t4 = some (.tup [.str "Unreadable", .bl b4]) := upd_same
    have x5 := hp_ne (o' := .tup [.str "Unreadable", .bl b4]) (ne_of_none x4 n4) x4
    have j1 := hp_ne (o' := .tup [.str "Unreadable", .bl b4]) (ne_of_none i1 n4) i1
    have j2 := hp_ne (o' := .tup [.str "Unreadable", .bl b4]) (ne_of_none i2 n4) i2
    have j3 := hp_ne (o' := .tup [.str "Unreadable", .bl b4]) (ne_of_none g3 n4) g3
    have gl3 := hp_ne (o' := .tup [.str "Unreadable", .bl b4]) (ne_of_none gl2 n4) gl2
    have sm5 : Same H (upd H4 t4 (.tup [.str "Unreadable", .bl b4])) := same_trN n4 sm4
    generalize upd H4 t4 (.tup [.str "Unreadable", .bl b4]) = H5 at *
    clear x4 n4 i1 i2 g3 gl2 sm4
    repeat cell_call
    intro l2 m2
    have i1 := hp_ne (o' := .lst [.ref t3, .ref t4]) (ne_of_none j1 m2) j1
    have i2 := hp_ne (o' := .lst [.ref t3, .ref t4]) (ne_of_none j2 m2) j2
    have i3 := hp_ne (o' := .lst [.ref t3, .ref t4]) (ne_of_none j3 m2) j3
    have i4 := hp_ne (o' := .lst [.ref t3, .ref t4]) (ne_of_none g4 m2) g4
    have gl4 := hp_ne (o' := .lst [.ref t3, .ref t4]) (ne_of_none gl3 m2) gl3
    have x6 := hp_ne (o' := .lst [.ref t3, .ref t4]) (ne_of_none x5 m2) x5
    have gm : (upd H5 l2 (.lst [.ref t3, .ref t4])) l2 = some (.lst [.ref t3, .ref t4]) := upd_same
    have sm6 : Same H (upd H5 l2 (.lst [.ref t3, .ref t4])) := same_trN m2 sm5
    generalize upd H5 l2 (.lst [.ref t3, .ref t4]) = H6 at *
    clear x5 m2 j1 j2 j3 g4 gl3 sm5
    refine st_cat gl4 gm (by show 4 < 100000; decide) fun l3 m3 => ?_
    have j1 := hp_ne (o' := .lst ([.ref t1, .ref t2] ++ [.ref t3, .ref t4])) (ne_of_none i1 m3) i1
    have j2 := hp_ne (o' := .lst ([.ref t1, .ref t2] ++ [.ref t3, .ref t4])) (ne_of_none i2 m3) i2
    have j3 := hp_ne (o' := .lst ([.ref t1, .ref t2] ++ [.ref t3, .ref t4])) (ne_of_none i3 m3) i3
    have j4 := hp_ne (o' := .lst ([.ref t1, .ref t2] ++ [.ref t3, .ref t4])) (ne_of_none i4 m3) i4
    have x7 := hp_ne (o' := .lst ([.ref t1, .ref t2] ++ [.ref t3, .ref t4])) (ne_of_none x6 m3) x6
    have gh : (upd H6 l3 (.lst ([.ref t1, .ref t2] ++ [.ref t3, .ref t4]))) l3 = some (.lst [.ref t1, .ref t2, .ref t3, .ref t4]) := upd_same
    have sm7 : Same H (upd H6 l3 (.lst ([.ref t1, .ref t2] ++ [.ref t3, .ref t4]))) := same_trN m3 sm6
    generalize upd H6 l3 (.lst ([.ref t1, .ref t2] ++ [.ref t3, .ref t4])) = HX at *
    clear x6 m3 i1 i2 i3 i4 gl4 gm sm6
    have key : ∀ (i : Nat) (x : V), ([.ref t1, .ref t2, .ref t3, .ref t4] : List V)[i]? = some x → ∃ t nb, ([("InvalidDate", b1), ("InvalidNumber", b2), ("NothingToUndo", b3), ("Unreadable", b4)] : List (Str × Bool))[i]? = some nb ∧ x = .ref t ∧ HX t = some (.tup [.str nb.1, .bl nb.2]) := fun i x hi => by
      match i, hi with
      | 0, hi => cases hi; exact ⟨t1, _, rfl, rfl, j1⟩
      | 1, hi => cases hi; exact ⟨t2, _, rfl, rfl, j2⟩
      | 2, hi => cases hi; exact ⟨t3, _, rfl, rfl, j3⟩
      | 3, hi => cases hi; exact ⟨t4, _, rfl, rfl, j4⟩
    generalize ebs : ([("InvalidDate", b1), ("InvalidNumber", b2), ("NothingToUndo", b3), ("Unreadable", b4)] : List (Str × Bool)) = bs at *
    have lbs : bs.length = 4 := by rw [← ebs]; rfl
    clear ebs
    repeat cell_call
    refine ⟨⟨_, SqL.of gh⟩, fun M nM => ?_⟩
    refine lc_list (xs := [.ref t1, .ref t2, .ref t3, .ref t4]) (fun i H' => Same HX H' ∧ H' M = some (.lst (nmL (bs.take i)))) ⟨Same.new nM, upd_same⟩ (fun i H' _ e => e.1.seq (SqL.of gh)) (fun i x H' hi e => ?_) (fun H' e => ?_)
    · obtain ⟨sm, hM⟩ := e
      obtain ⟨t, nb, gb, rfl, gt⟩ := key i x hi
      have gt2 := sm _ _ gt
      have li : i < 4 := by
        rw [← lbs]
        exact (List.getElem?_eq_some_iff.mp gb).1
      repeat cell_call
      have l1 := nmL_len (bs.take i)
      rw [List.length_take] at l1
      refine st_iB (fun hb => ?_) (fun hb => ?_)
      · refine st_var (n := 3) (v := .str nb.1) rfl ⟨_, hM, len_lt (by omega), same_trU nM sm, ?_⟩
        rw [upd_same, List.take_add_one, gb]
        unfold nmL
        rw [List.filter_append, List.map_append]
        simp [hb]
      · refine ⟨sm, ?_⟩
        rw [hM, List.take_add_one, gb]
        unfold nmL
        rw [List.filter_append, List.map_append]
        simp [hb]
    · obtain ⟨sm, hM⟩ := e
      rw [show ([.ref t1, .ref t2, .ref t3, .ref t4] : List V).length = 4 from rfl, ← lbs, List.take_length] at hM
      have x8 := sm _ _ x7
      have sm8 := same_tr sm sm7
      clear key j1 j2 j3 j4 gh x7 sm sm7
      repeat cell_call
      refine ⟨C, dx, v, rfl, rfl, TE, x8, ?_⟩
      repeat cell_call
      refine st_isX TE x8 rel_ref k5 ?_
      repeat cell_call
      refine st_isX TE x8 rel_ty k6 ?_
      repeat cell_call
      intro l4 m4
      have gM := hp_ne (o' := .lst [v, .bl true]) (ne_of_none hM m4) hM
      have l1 := nmL_len bs
      refine st_cat gM upd_same (by show (nmL bs).length + 2 < 100000; omega) fun l5 m5 => ?_
      exact q l5 _ (same_free m5 (same_trN m4 sm8)) (same_trN m5 (same_trN m4 sm8)) upd_same
/-- as a suite reads it -/
def spS_law_error (K : PySem.W.Frag) (a : Addr) (cls : Value) (d : Option Addr) : Sp := fun vs H Q _ => ∃ (C dx : Addr) (v : V) (b1 b2 b3 b4 : Bool), vs = [.ref a] ∧ cls = .ref C ∧ d = some dx ∧ ExcK K C ∧ H dx = some (.xd [(("value" : Str), v)]) ∧
  PySem.W.kitOne K (.ref C) (.ref (He.ga K "InvalidDate")) = some b1 ∧ PySem.W.kitOne K (.ref C) (.ref (He.ga K "InvalidNumber")) = some b2 ∧ PySem.W.kitOne K (.ref C) (.ref (He.ga K "NothingToUndo")) = some b3 ∧ PySem.W.kitOne K (.ref C) (.ref (He.ga K "Unreadable")) = some b4 ∧
  PySem.W.kitOne K (.ref C) (.ref (He.ga K "DateError")) = some true ∧ PySem.W.kitOne K (.ref C) (.type "ValueError") = some true ∧
  ∀ q H', H q = none → Same H H' → H' q = some (.lst (nmL [("InvalidDate", b1), ("InvalidNumber", b2), ("NothingToUndo", b3), ("Unreadable", b4)] ++ [v, .bl true])) → Q (.ref q) H'
theorem imp_law_error {a : Addr} {oe : Obj} {cls : Value} {d : Option Addr} (hz : Zc cls d oe) : ∀ vs H Q E, spS_law_error K a cls d vs H Q E → sp_law_error K (a, oe) vs H Q E := by
  rintro vs H Q E ⟨C, dx, v, b1, b2, b3, b4, rfl, rfl, rfl, z⟩
  exact ⟨C, dx, v, b1, b2, b3, b4, rfl, hz, z⟩

end
end Mc
namespace Mc
open PySem PySem.Spec PyProof.Rows L2
open HotX L2H
local macro_rules | `(tactic| lcg_src) => `(tactic| first
  | with_reducible assumption
  | ((with_reducible apply Ne.symm); with_reducible assumption)
  | ((with_reducible apply ne_nf); (with_reducible assumption); lcg_off)
  | ((with_reducible apply Ne.symm); (with_reducible apply ne_nf); (with_reducible assumption); lcg_off))
local macro_rules | `(tactic| lcg_off) => `(tactic| first
  | with_reducible assumption
  | (with_reducible exact upd_same)
  | ((with_reducible apply hp_ne); lcg_src; lcg_off)
  | ((with_reducible apply hp_same); (with_reducible assumption); lcg_off)
  | ((with_reducible apply hp_frm); (with_reducible assumption); lcg_src; lcg_off)
  | ((with_reducible apply hp_frm2); (with_reducible assumption); lcg_src; lcg_src; lcg_off)
  | assumption)
local macro_rules | `(tactic| kpt_turns) => `(tactic| first
  | with_reducible assumption
  | ((with_reducible apply SqL.of); lcg_off)
  | ((with_reducible apply SqT.of); lcg_off)
  | ((with_reducible apply Frm.seq); (with_reducible assumption); lcg_src; kpt_turns)
  | ((with_reducible apply Frm.tup); (with_reducible assumption); lcg_src; kpt_turns)
  | ((with_reducible apply Frm2.seq); (with_reducible assumption); lcg_src; lcg_src; kpt_turns)
  | ((with_reducible apply Frm2.tup); (with_reducible assumption); lcg_src; lcg_src; kpt_turns)
  | ((with_reducible apply L2.Same.seq); (with_reducible assumption); kpt_turns)
  | ((with_reducible apply Same.tup); (with_reducible assumption); kpt_turns)
  | assumption)
local macro_rules | `(tactic| k_memK) => `(tactic| first
  | with_reducible exact Frm.refl _
  | with_reducible assumption
  | ((with_reducible apply Frm.trN); (with_reducible assumption); k_memK)
  | ((with_reducible apply Frm.trU); k_memK)
  | ((with_reducible apply Frm.trM); (with_reducible assumption); k_memK)
  | ((with_reducible apply Frm.tr); (with_reducible assumption); k_memK)
  | ((with_reducible apply Frm.trS); (with_reducible assumption); k_memK)
  | with_reducible exact Frm2.refl _
  | ((with_reducible apply Frm2.trN); (with_reducible assumption); k_memK)
  | ((with_reducible apply Frm2.trU); k_memK)
  | ((with_reducible apply Frm2.trV); k_memK)
  | ((with_reducible apply Frm2.trM); (with_reducible assumption); k_memK)
  | ((with_reducible apply Frm2.tr); (with_reducible assumption); k_memK)
  | ((with_reducible apply Frm2.trS); (with_reducible assumption); k_memK))
local macro_rules | `(tactic| k_allIn) => `(tactic| first
  | with_reducible exact L2.Same.refl _
  | with_reducible assumption
  | ((with_reducible apply same_trN); (with_reducible assumption); k_allIn)
  | ((with_reducible apply same_trU); (with_reducible assumption); k_allIn)
  | ((with_reducible apply same_tr); (with_reducible assumption); k_allIn))
local macro_rules | `(tactic| k_ownIn) => `(tactic| first
  | with_reducible refine st_seq ?_
  | ((with_reducible refine' st_setF ?e ?_); (case e => intro x; (simp only [List.set_cons_zero, List.set_cons_succ]; exact rfl)))
  | with_reducible refine st_c ?_
  | ((with_reducible refine' st_var ?h ?_); (case h => exact rfl))
  | with_reducible refine st_op ?_
  | with_reducible refine st_I0 ?_
  | ((with_reducible refine' st_powL ?c ?e ?_); (case c => exact ⟨by decide, by decide, by decide⟩); (case e => (simp only [Int.reduceToNat, Int.reducePow]; exact rfl)))
  | ((with_reducible refine st_I ?h ?_); (case h => first | with_reducible assumption | (show (0 : Int) < _; omega) | exact ⟨by omega, by omega⟩ | exact .inl ⟨by omega, by omega⟩ | exact .inr ⟨by omega, by omega⟩ | exact ⟨by omega, by omega, by omega⟩))
  | with_reducible refine st_nil ?_
  | with_reducible refine st_cons ?_
  | with_reducible refine st_ret ?_
  | with_reducible refine st_call ?_
  | with_reducible refine st_cb ?_
  | with_reducible refine st_exb ?_
  | ((with_reducible refine' st_ixL ?h1 ?h2 ?_); (case h1 => kpt_turns); (case h2 => first | ((with_reducible apply at0); exact rfl) | ((with_reducible apply at1); exact rfl) | ((with_reducible apply at2); exact rfl) | ((with_reducible apply at3); exact rfl) | with_reducible assumption))
  | ((with_reducible refine' st_ixT ?h1 ?h2 ?_); (case h1 => kpt_turns); (case h2 => first | ((with_reducible apply at0); exact rfl) | ((with_reducible apply at1); exact rfl) | ((with_reducible apply at2); exact rfl) | with_reducible assumption))
  | ((with_reducible refine' st_ixP ?h1 ?h2 ?h3 ?h4 ?_); (case h1 => kpt_turns); (case h2 => (repeat constructor)); (case h3 => omega); (case h4 => (simp; omega)))
  | ((with_reducible refine' st_ixPT ?h1 ?h2 ?h3 ?h4 ?_); (case h1 => kpt_turns); (case h2 => (repeat constructor)); (case h3 => omega); (case h4 => (simp; omega)))
  | with_reducible refine st_tB ?_
  | with_reducible refine st_test ?_
  | with_reducible refine st_and ?_
  | with_reducible refine st_or ?_
  | with_reducible refine st_not ?_
  | with_reducible refine st_andV ?_
  | with_reducible refine st_orV ?_
  | with_reducible refine st_notV ?_
  | with_reducible refine st_chain ?_
  | with_reducible refine st_iT ?_
  | with_reducible refine st_iF ?_
  | with_reducible refine st_iNT ?_
  | with_reducible refine st_iNF ?_
  | with_reducible refine st_iRf ?_
  | with_reducible refine st_iNRf ?_
  | with_reducible refine st_asg ?_
  | ((with_reducible refine' st_parF ?e ?_); (case e => intro x y; (simp only [List.set_cons_zero, List.set_cons_succ]; exact rfl)))
  | with_reducible refine st_par2 ?_
  | with_reducible refine st_fst ?_
  | with_reducible refine st_jsE ?_
  | with_reducible refine st_js ?_
  | with_reducible refine st_fmt ?_
  | with_reducible refine st_joinK ?_
  | with_reducible refine st_strx ?_
  | ((with_reducible refine' st_par3F ?e ?_); (case e => intro x y z; (simp only [List.set_cons_zero, List.set_cons_succ]; exact rfl)))
  | with_reducible refine st_par3 ?_
  | ((with_reducible refine' st_augF ?h ?e ?_); (case h => exact rfl); (case e => intro x; (simp only [List.set_cons_zero, List.set_cons_succ]; exact rfl)))
  | with_reducible refine st_ipI ?_
  | with_reducible refine st_drop ?_
  | with_reducible refine st_next ?_
  | with_reducible refine st_un ?_
  | with_reducible refine st_U ?_
  | ((with_reducible refine' st_gNF ?e ?_); (case e => (simp only [List.set_cons_zero, List.set_cons_succ]; exact rfl)))
  | with_reducible refine st_gN ?_
  | ((with_reducible refine' st_gT ?h1 ?h2 ?_); (case h1 => kpt_turns); (case h2 => exact rfl))
  | with_reducible refine st_gC ?_
  | with_reducible refine st_gE ?_
  | with_reducible refine st_gS ?_
  | ((with_reducible refine' st_setL ?h1 ?h2 ?_); (case h1 => lcg_off); (case h2 => exact rfl))
  | with_reducible refine st_lst ?_
  | with_reducible refine st_tup ?_
  | ((with_reducible refine st_new ?h ?_); (case h => (simp; done)))
  | with_reducible refine st_callN ?_
  | with_reducible refine st_bm ?_
  | with_reducible refine st_bm0 ?_
  | ((with_reducible refine' st_tyL ?h ?_); (case h => kpt_turns))
  | ((with_reducible refine st_eq ?h ?_); (case h => exact rfl))
  | ((with_reducible refine st_ne ?h ?_); (case h => exact rfl))
  | with_reducible refine st_i1 ?_
  | with_reducible refine st_i2 ?_
  | with_reducible refine st_int ?_
  | with_reducible refine st_intb ?_
  | ((with_reducible refine' st_lenQ ?h ?_); (case h => kpt_turns))
  | ((with_reducible refine' st_lenQT ?h ?_); (case h => kpt_turns))
  | with_reducible refine st_yes ?_
  | with_reducible refine st_brk ?_
  | with_reducible refine st_cont ?_
  | with_reducible refine st_retN ?_
  | with_reducible refine st_forI ?_
  | with_reducible refine st_lcI ?_
  | with_reducible refine st_itL ?_
  | with_reducible refine st_itT ?_
  | with_reducible refine st_rng1 ?_
  | with_reducible refine st_rng2 ?_
  | with_reducible refine st_ref ?_
  | with_reducible refine st_sl ?_
  | with_reducible refine st_pN ?_
  | with_reducible refine st_pS ?_
  | with_reducible refine st_pI ?_
  | (refine ⟨rfl, ?_⟩))
local macro_rules | `(tactic| cell_call) => `(tactic| first
  | with_reducible refine st_seq ?_
  | ((with_reducible refine' st_setF ?e ?_); (case e => intro x; (simp only [List.set_cons_zero, List.set_cons_succ]; exact rfl)))
  | with_reducible refine st_c ?_
  | ((with_reducible refine' st_var ?h ?_); (case h => exact rfl))
  | with_reducible refine st_op ?_
  | with_reducible refine st_I0 ?_
  | ((with_reducible refine' st_powL ?c ?e ?_); (case c => exact ⟨by decide, by decide, by decide⟩); (case e => (simp only [Int.reduceToNat, Int.reducePow]; exact rfl)))
  | ((with_reducible refine st_I ?h ?_); (case h => first | with_reducible assumption | (show (0 : Int) < _; omega) | exact ⟨by omega, by omega⟩ | exact .inl ⟨by omega, by omega⟩ | exact .inr ⟨by omega, by omega⟩ | exact ⟨by omega, by omega, by omega⟩))
  | with_reducible refine st_nil ?_
  | with_reducible refine st_cons ?_
  | with_reducible refine st_ret ?_
  | with_reducible refine st_call ?_
  | with_reducible refine st_cb ?_
  | with_reducible refine st_exb ?_
  | ((with_reducible refine' st_ixL ?h1 ?h2 ?_); (case h1 => kpt_turns); (case h2 => first | ((with_reducible apply at0); exact rfl) | ((with_reducible apply at1); exact rfl) | ((with_reducible apply at2); exact rfl) | ((with_reducible apply at3); exact rfl) | with_reducible assumption))
  | ((with_reducible refine' st_ixT ?h1 ?h2 ?_); (case h1 => kpt_turns); (case h2 => first | ((with_reducible apply at0); exact rfl) | ((with_reducible apply at1); exact rfl) | ((with_reducible apply at2); exact rfl) | with_reducible assumption))
  | ((with_reducible refine' st_ixP ?h1 ?h2 ?h3 ?h4 ?_); (case h1 => kpt_turns); (case h2 => (repeat constructor)); (case h3 => omega); (case h4 => (simp; omega)))
  | ((with_reducible refine' st_ixPT ?h1 ?h2 ?h3 ?h4 ?_); (case h1 => kpt_turns); (case h2 => (repeat constructor)); (case h3 => omega); (case h4 => (simp; omega)))
  | with_reducible refine st_tB ?_
  | with_reducible refine st_test ?_
  | with_reducible refine st_and ?_
  | with_reducible refine st_or ?_
  | with_reducible refine st_not ?_
  | with_reducible refine st_andV ?_
  | with_reducible refine st_orV ?_
  | with_reducible refine st_notV ?_
  | with_reducible refine st_chain ?_
  | with_reducible refine st_iT ?_
  | with_reducible refine st_iF ?_
  | with_reducible refine st_iNT ?_
  | with_reducible refine st_iNF ?_
  | with_reducible refine st_iRf ?_
  | with_reducible refine st_iNRf ?_
  | with_reducible refine st_asg ?_
  | ((with_reducible refine' st_parF ?e ?_); (case e => intro x y; (simp only [List.set_cons_zero, List.set_cons_succ]; exact rfl)))
  | with_reducible refine st_par2 ?_
  | with_reducible refine st_fst ?_
  | with_reducible refine st_jsE ?_
  | with_reducible refine st_js ?_
  | with_reducible refine st_fmt ?_
  | with_reducible refine st_joinK ?_
  | with_reducible refine st_strx ?_
  | ((with_reducible refine' st_par3F ?e ?_); (case e => intro x y z; (simp only [List.set_cons_zero, List.set_cons_succ]; exact rfl)))
  | with_reducible refine st_par3 ?_
  | ((with_reducible refine' st_augF ?h ?e ?_); (case h => exact rfl); (case e => intro x; (simp only [List.set_cons_zero, List.set_cons_succ]; exact rfl)))
  | with_reducible refine st_ipI ?_
  | with_reducible refine st_drop ?_
  | with_reducible refine st_next ?_
  | with_reducible refine st_un ?_
  | with_reducible refine st_U ?_
  | ((with_reducible refine' st_gNF ?e ?_); (case e => (simp only [List.set_cons_zero, List.set_cons_succ]; exact rfl)))
  | with_reducible refine st_gN ?_
  | ((with_reducible refine' st_gT ?h1 ?h2 ?_); (case h1 => kpt_turns); (case h2 => exact rfl))
  | with_reducible refine st_gC ?_
  | with_reducible refine st_gE ?_
  | with_reducible refine st_gS ?_
  | ((with_reducible refine' st_setL ?h1 ?h2 ?_); (case h1 => lcg_off); (case h2 => exact rfl))
  | with_reducible refine st_lst ?_
  | with_reducible refine st_tup ?_
  | ((with_reducible refine st_new ?h ?_); (case h => (simp; done)))
  | with_reducible refine st_callN ?_
  | with_reducible refine st_bm ?_
  | with_reducible refine st_bm0 ?_
  | ((with_reducible refine' st_tyL ?h ?_); (case h => kpt_turns))
  | ((with_reducible refine st_eq ?h ?_); (case h => exact rfl))
  | ((with_reducible refine st_ne ?h ?_); (case h => exact rfl))
  | with_reducible refine st_i1 ?_
  | with_reducible refine st_i2 ?_
  | with_reducible refine st_int ?_
  | with_reducible refine st_intb ?_
  | ((with_reducible refine' st_lenQ ?h ?_); (case h => kpt_turns))
  | ((with_reducible refine' st_lenQT ?h ?_); (case h => kpt_turns))
  | with_reducible refine st_yes ?_
  | with_reducible refine st_brk ?_
  | with_reducible refine st_cont ?_
  | with_reducible refine st_retN ?_
  | with_reducible refine st_forI ?_
  | with_reducible refine st_lcI ?_
  | with_reducible refine st_itL ?_
  | with_reducible refine st_itT ?_
  | with_reducible refine st_rng1 ?_
  | with_reducible refine st_rng2 ?_
  | with_reducible refine st_ref ?_
  | with_reducible refine st_sl ?_
  | with_reducible refine st_pN ?_
  | with_reducible refine st_pS ?_
  | with_reducible refine st_pI ?_
  | (refine ⟨rfl, ?_⟩)
  | with_reducible refine st_ifE ?_
  | with_reducible refine st_ifS ?_)
local macro_rules | `(tactic| kpf_close) => `(tactic| first
  | cell_call
  | refine st_iD (fun _ => ?_) (fun _ => ?_)
  | refine st_iND (fun _ => ?_) (fun _ => ?_)
  | refine st_iNB (fun _ => ?_) (fun _ => ?_)
  | refine st_iB (fun _ => ?_) (fun _ => ?_))
local macro_rules | `(tactic| k_places) => `(tactic| first
  | with_reducible refine isi_non_bool ?_
  | with_reducible refine isi_non_int ?_
  | with_reducible refine isi_non_str ?_
  | with_reducible refine isi_non_list ?_
  | with_reducible refine isi_non_tuple ?_
  | with_reducible refine isi_bl_bool ?_
  | with_reducible refine isi_bl_int ?_
  | with_reducible refine isi_bl_str ?_
  | with_reducible refine isi_bl_list ?_
  | with_reducible refine isi_bl_tuple ?_
  | with_reducible refine isi_int_bool ?_
  | with_reducible refine isi_int_int ?_
  | with_reducible refine isi_int_str ?_
  | with_reducible refine isi_int_list ?_
  | with_reducible refine isi_int_tuple ?_
  | with_reducible refine isi_str_bool ?_
  | with_reducible refine isi_str_int ?_
  | with_reducible refine isi_str_str ?_
  | with_reducible refine isi_str_list ?_
  | with_reducible refine isi_str_tuple ?_
  | ((with_reducible refine' isi_list_bool ?h ?_); (case h => kpt_turns))
  | ((with_reducible refine' isi_list_int ?h ?_); (case h => kpt_turns))
  | ((with_reducible refine' isi_list_str ?h ?_); (case h => kpt_turns))
  | ((with_reducible refine' isi_list_list ?h ?_); (case h => kpt_turns))
  | ((with_reducible refine' isi_list_tuple ?h ?_); (case h => kpt_turns))
  | ((with_reducible refine' isi_tuple_bool ?h ?_); (case h => kpt_turns))
  | ((with_reducible refine' isi_tuple_int ?h ?_); (case h => kpt_turns))
  | ((with_reducible refine' isi_tuple_str ?h ?_); (case h => kpt_turns))
  | ((with_reducible refine' isi_tuple_list ?h ?_); (case h => kpt_turns))
  | ((with_reducible refine' isi_tuple_tuple ?h ?_); (case h => kpt_turns)))
local macro_rules | `(tactic| cell_call) => `(tactic| first
  | with_reducible refine st_zip ?_)
local macro_rules | `(tactic| k_ownIn) => `(tactic| first
  | with_reducible refine st_zip ?_)
local macro_rules | `(tactic| cell_call) => `(tactic| first
  | with_reducible refine st_veI ?_
  | with_reducible refine st_ost ?_
  | with_reducible refine st_mko ?_
  | with_reducible refine st_xv ?_
  | with_reducible refine st_lrg ?_
  | with_reducible refine st_callS ?_
  | with_reducible refine st_rg2 ?_
  | with_reducible refine st_rgE ?_)
local macro_rules | `(tactic| k_ownIn) => `(tactic| first
  | with_reducible refine st_veI ?_
  | with_reducible refine st_ost ?_
  | with_reducible refine st_mko ?_
  | with_reducible refine st_xv ?_
  | with_reducible refine st_lrg ?_
  | with_reducible refine st_callS ?_
  | with_reducible refine st_rg2 ?_
  | with_reducible refine st_rgE ?_)
local macro_rules | `(tactic| cell_call) => `(tactic| first
  | with_reducible refine st_inC ?_
  | with_reducible refine st_itS ?_
  | with_reducible refine st_itS1 ?_)
local macro_rules | `(tactic| k_ownIn) => `(tactic| first
  | with_reducible refine st_inC ?_
  | with_reducible refine st_itS ?_
  | with_reducible refine st_itS1 ?_)
local macro_rules | `(tactic| cell_call) => `(tactic| first
  | with_reducible refine st_notInC ?_
  | with_reducible refine st_turnS ?_
  | with_reducible refine st_callT ?_)
local macro_rules | `(tactic| k_ownIn) => `(tactic| first
  | with_reducible refine st_notInC ?_
  | with_reducible refine st_turnS ?_
  | with_reducible refine st_callT ?_)
section
variable {P : Program} {w : World} {K : PySem.W.Frag} {mg : Str → Option Value} {base : Heap}
def sp_law_leap (K : PySem.W.Frag) : Sp := fun vs H Q _ => ∃ y : Int, vs = [.int y] ∧ Q (.bl (leap y)) H
theorem ok_law_leap (T : Txt K mg) : FnOk P w K mg base CX0 1 (He.ga K "_law_leap") T.fd_law_leap ["count"] (sp_law_leap K) := by
  refine T.F_law_leap.ok sc_law_leap (fun vs H Q E h => ?_) (fun cdv A outer s H vs Q E hr h => ?_)
  · obtain ⟨y, rfl, _⟩ := h
    rfl
  · obtain ⟨y, rfl, q⟩ := h
    refine ⟨_, PSs.nox (pss_one (ps_ret (pe_or (pe_cmpR op_eqI (pe_op op_mod (pv 0) pe_int) pe_int (nomark _)) (pe_one (pe_and (pe_cmpR op_eqI (pe_op op_mod (pv 0) pe_int) pe_int (nomark _)) (pe_one (pe_cmpR op_neI (pe_op op_mod (pv 0) pe_int) pe_int (nomark _)))))))), ?_⟩
    rw [start_law_leap]
    repeat' kpf_close
    all_goals (refine q_of q ?_; simp_all [leap])

def sp_law_length (K : PySem.W.Frag) : Sp := fun vs H Q _ => ∃ n : Int, vs = [.int n] ∧ ∀ H', Same H H' → Q (.int (lenN n)) H'
theorem ok_law_length (T : Txt K mg) : FnOk P w K mg base CX0 2 (He.ga K "_law_length") T.fd_law_length ["number"] (sp_law_length K) := by
  refine T.F_law_length.ok sc_law_length (fun vs H Q E h => ?_) (fun cdv A outer s H vs Q E hr h => ?_)
  · obtain ⟨n, rfl, _⟩ := h
    rfl
  · obtain ⟨n, rfl, q⟩ := h
    refine ⟨_, PSs.nox (pss_cons (ps_set (i := 1) sc_law_length.nd rfl (Or.inl rfl) (pe_op op_mod (pv 0) pe_int))
      (pss_cons (ps_if (pt_cmpR op_eqI (pv 1) pe_int (nomark _)) (pss_one (ps_ret (pe_op op_add pe_int (pe_callTy call_int1 (by rfl) T.b_int (by decide +kernel) (pa_cons (pe_call (ok_law_leap T) (hr.mono (by decide)) rfl T.g_law_leap T.F_law_leap.kp (b_law_leap T) .nil pass0 (pa_cons (pe_op op_fdiv (pv 0) pe_int) pa_nil)) pa_nil))))) pss_nil)
      (pss_one (ps_ret (pe_op op_sub pe_int (pe_callTy call_int1 (by rfl) T.b_int (by decide +kernel) (pa_cons (pe_cmpR (show OpR _ _ (rIn K false) from op_in_seq) (pv 1) (pe_lst (pa_cons pe_int (pa_cons pe_int (pa_cons pe_int (pa_cons pe_int pa_nil))))) (by rfl)) pa_nil))))))), ?_⟩
    rw [start_law_length]
    repeat cell_call
    refine st_iD (fun hm => ?_) (fun hm => ?_)
    · repeat cell_call
      refine ⟨_, rfl, ?_⟩
      repeat cell_call
      rw [lenN_feb hm]
      exact q H (Same.refl H)
    · repeat cell_call
      intro p np
      refine st_in (.inl (SqL.of upd_same)) rfl rfl ?_
      rw [if_neg Bool.false_ne_true, show ([V.int 3, V.int 5, V.int 8, V.int 10] : List V) = [3, 5, 8, 10].map V.int from rfl, in_int]
      repeat cell_call
      rw [lenN_oth hm]
      exact q _ (Same.new np)

/-- a source of draws at S, its list of digits at D; c: how often it has mixed at most -/
structure SrcAt (H : Hp) (S D : Addr) (c : Int) : Prop where
  ne : S ≠ D
  src : ∃ a b n : Int, H S = some (.lst [.ref D, .int a, .int b, .int n]) ∧ 0 ≤ b ∧ b ≤ 2305843009213693951 ∧ 0 ≤ n ∧ n ≤ c
  dig : ∃ ds : List Int, H D = some (.lst (ds.map V.int))
theorem SrcAt.mono {H : Hp} {S D : Addr} {c c' : Int} (h : SrcAt H S D c) (l : c ≤ c') : SrcAt H S D c' := by
  obtain ⟨n, ⟨a, b, k, h1, h2, h3, h4, h5⟩, d⟩ := h
  exact ⟨n, ⟨a, b, k, h1, h2, h3, h4, by omega⟩, d⟩
theorem SrcAt.same {H H' : Hp} {S D : Addr} {c : Int} (h : SrcAt H S D c) (e : Same H H') : SrcAt H' S D c := by
  obtain ⟨n, ⟨a, b, k, h1, h2⟩, ds, h3⟩ := h
  exact ⟨n, ⟨a, b, k, e _ _ h1, h2⟩, ds, e _ _ h3⟩
theorem SrcAt.new {H : Hp} {S D p : Addr} {o : HO} {c : Int} (h : SrcAt H S D c) (n : H p = none) : SrcAt (upd H p o) S D c := h.same (Same.new n)
theorem SrcAt.neS {H : Hp} {S D p : Addr} {c : Int} (h : SrcAt H S D c) (n : H p = none) : p ≠ S := by
  obtain ⟨_, ⟨a, b, k, h1, h2⟩, _⟩ := h
  exact Ne.symm (ne_of_none h1 n)
theorem SrcAt.neD {H : Hp} {S D p : Addr} {c : Int} (h : SrcAt H S D c) (n : H p = none) : p ≠ D := by
  obtain ⟨_, _, ds, h1⟩ := h
  exact Ne.symm (ne_of_none h1 n)
/-- a mutation elsewhere -/
theorem SrcAt.off {H : Hp} {S D p : Addr} {o : HO} {c : Int} (h : SrcAt H S D c) (n : p ≠ S) (m : p ≠ D) : SrcAt (upd H p o) S D c := by
  obtain ⟨k, ⟨a, b, z, h1, h2⟩, ds, h3⟩ := h
  exact ⟨k, ⟨a, b, z, by rw [upd_ne n.symm]; exact h1, h2⟩, ds, by rw [upd_ne m.symm]; exact h3⟩
theorem SrcAt.tk {H H1 : Hp} {S D : Addr} {c : Int} (h : SrcAt H S D c) (f : Frm2 S D H H1) : TupK H H1 := by
  obtain ⟨_, ⟨_, _, _, z, _⟩, ⟨_, y⟩⟩ := h
  exact TupK.frm2 z y f
def sp_law_source (K : PySem.W.Frag) : Sp := fun vs H Q _ => ∃ (A : Addr) (ns : List Int), vs = [.ref A] ∧ SqL K H A (ns.map V.int) ∧ ns.length ≤ 63 ∧
  ∀ p D H', H p = none → H D = none → Same H H' → SrcAt H' p D 0 → Q (.ref p) H'
theorem ok_law_source (T : Txt K mg) : FnOk P w K mg base CX0 1 (He.ga K "_law_source") T.fd_law_source ["script"] (sp_law_source K) := by
  refine T.F_law_source.ok sc_law_source (fun vs H Q E h => ?_) (fun cdv A outer s H vs Q E hr h => ?_)
  · obtain ⟨A, ns, rfl, _⟩ := h
    rfl
  · obtain ⟨A, ns, rfl, hA, hl, q⟩ := h
    refine ⟨_, PSs.nox (pss_cons (ps_set (i := 1) sc_law_source.nd rfl (Or.inl rfl) pe_int)
      (pss_cons (ps_set (i := 2) sc_law_source.nd rfl (Or.inl rfl) (pe_lst pa_nil))
      (pss_cons (ps_for PassesOwn.never rfl (show PI _ _ _ (iList K _) from pi_list (pv 0)) (pg_name (i := 3) sc_law_source.nd rfl (Or.inl rfl)) (pss_cons (ps_set (i := 1) sc_law_source.nd rfl (Or.inl rfl) (pe_op op_mod (pe_op op_add (pe_op op_mul (pv 1) pe_int) (pv 3)) (pe_op op_sub (pe_op op_pow pe_int pe_int) pe_int)))
      (pss_cons (ps_set (i := 4) sc_law_source.nd rfl (Or.inl rfl) (pe_callB (call_maxI rfl) (by rfl) T.b_max (by decide +kernel) (pa_cons (pv 3) (pa_cons (pe_op op_sub pe_int (pv 3)) pa_nil))))
      (pss_one (ps_if (pt_cmpR op_ge (pv 4) (pe_op op_pow pe_int pe_int) (nomark _)) (pss_one (ps_expr (show PE _ _ (tBM K _ _ _ _) from pe_bm PySem.F.plainAttrs_list PySem.F.slot_list_append PySem.F.type_list_append mt_append (pv 2) (pa_cons (pe_op op_sub (pv 4) (pe_op op_pow pe_int pe_int)) pa_nil)))) pss_nil)))))
      (pss_one (ps_ret (pe_lst (pa_cons (pv 2) (pa_cons pe_int (pa_cons (pv 1) (pa_cons pe_int pa_nil)))))))))), ?_⟩
    rw [start_law_source]
    repeat cell_call
    intro D nD
    repeat cell_call
    have s0 : Same H (upd H D (.lst [])) := Same.new nD
    refine ⟨⟨_, s0.seq hA⟩, fL (xs := ns.map V.int) (fun i σ' H' => ∃ (ds : List Int) (m : Int) (x y : Option V), σ' = [some (.ref A), some (.int m), some (.ref D), x, y] ∧ 0 ≤ m ∧ m ≤ 2305843009213693951 ∧ Same H H' ∧ H' D = some (.lst (ds.map V.int)) ∧ ds.length ≤ i)
      ⟨[], _, none, none, rfl, by decide, by decide, s0, upd_same, Nat.le_refl _⟩ (fun i σ' H' _ e => ?_) (fun i x σ' H' hx e => ?_) (fun σ' H' e => ?_)⟩
    · obtain ⟨ds, m, x, y, rfl, _, _, sm, _⟩ := e
      exact sm.seq hA
    · obtain ⟨ds, m, x, y, rfl, m0, m1, sm, hD, hn⟩ := e
      obtain ⟨k, hk, rfl⟩ := int_at hx
      have hi : i < ns.length := (List.getElem?_eq_some_iff.mp hk).1
      repeat cell_call
      refine st_iD (fun h1 => ?_) (fun h1 => ?_)
      · repeat cell_call
        refine st_app hD (by rw [List.length_map]; omega) ?_
        repeat cell_call
        refine ⟨ds ++ [_], _, _, _, rfl, by omega, by omega, same_trU nD sm, by rw [upd_same, List.map_append]; rfl, by rw [List.length_append, List.length_singleton]; omega⟩
      · repeat cell_call
        exact ⟨ds, _, _, _, rfl, by omega, by omega, sm, hD, by omega⟩
    · obtain ⟨ds, m, x, y, rfl, m0, m1, sm, hD, hn⟩ := e
      repeat cell_call
      intro p np
      have e1 : D ≠ p := ne_of_none hD np
      exact q p D _ (same_free np sm) nD (same_trN np sm) ⟨e1.symm, ⟨_, _, _, upd_same, m0, m1, by decide, by decide⟩, ⟨ds, by rw [upd_ne e1]; exact hD⟩⟩

def sp_law_text (K : PySem.W.Frag) : Sp := fun vs H Q _ => ∃ (D : Addr) (y m d : Int), vs = [.ref D] ∧ SqT K H D [.int y, .int m, .int d] ∧ y.natAbs < 2 ^ 200 ∧ m.natAbs < 2 ^ 200 ∧ d.natAbs < 2 ^ 200 ∧ ∀ u, TkO 605 u → Q (.str u) H
theorem ok_law_text (T : Txt K mg) : FnOk P w K mg base CX0 1 (He.ga K "_law_text") T.fd_law_text ["begin"] (sp_law_text K) := by
  refine T.F_law_text.ok sc_law_text (fun vs H Q E h => ?_) (fun cdv A outer s H vs Q E hr h => ?_)
  · obtain ⟨D, y, m, d, rfl, _⟩ := h
    rfl
  · obtain ⟨D, y, m, d, rfl, hD, b1, b2, b3, q⟩ := h
    refine ⟨_, PSs.nox (pss_one (ps_ret (pe_op op_addS (pe_op op_addS (pe_op op_addS (pe_op op_addS (pe_callTy call_strI (by rfl) T.b_str (by decide +kernel) (pa_cons (pe_ix (show IxR _ (rIxT K) from ix_tup) (pv 0) pe_int (fun _ _ => rfl)) pa_nil)) pe_str) (pe_callTy call_strI (by rfl) T.b_str (by decide +kernel) (pa_cons (pe_ix (show IxR _ (rIxT K) from ix_tup) (pv 0) pe_int (fun _ _ => rfl)) pa_nil))) pe_str) (pe_callTy call_strI (by rfl) T.b_str (by decide +kernel) (pa_cons (pe_ix (show IxR _ (rIxT K) from ix_tup) (pv 0) pe_int (fun _ _ => rfl)) pa_nil))))), ?_⟩
    rw [start_law_text]
    have t1 := TkO.num b1
    have t2 := TkO.num b2
    have t3 := TkO.num b3
    have l1 := t1.le
    have l2 := t2.le
    have l3 := t3.le
    have l4 : (Str.ofString "/").length = 1 := rfl
    have t4 : TkO 1 (Str.ofString "/") := TkO.lit (Nat.le_refl 1)
    repeat cell_call
    refine st_strI b1 ?_
    repeat cell_call
    refine st_addS (by omega) ?_
    repeat cell_call
    refine st_strI b2 ?_
    repeat cell_call
    refine st_addS (by simp only [PySem.Str.length_append]; omega) ?_
    repeat cell_call
    refine st_addS (by simp only [PySem.Str.length_append]; omega) ?_
    repeat cell_call
    refine st_strI b3 ?_
    repeat cell_call
    refine st_addS (by simp only [PySem.Str.length_append]; omega) ?_
    exact q _ (((((t1.app t4).app t2).app t4).app t3).mono (by decide))

end
end Mc
namespace Mc
open PySem PySem.Spec PyProof.Rows L2
open HotX L2H
local macro_rules | `(tactic| lcg_src) => `(tactic| first
  | with_reducible assumption
  | ((with_reducible apply Ne.symm); with_reducible assumption)
  | ((with_reducible apply ne_nf); (with_reducible assumption); lcg_off)
  | ((with_reducible apply Ne.symm); (with_reducible apply ne_nf); (with_reducible assumption); lcg_off))
local macro_rules | `(tactic| lcg_off) => `(tactic| first
  | with_reducible assumption
  | (with_reducible exact upd_same)
  | ((with_reducible apply hp_ne); lcg_src; lcg_off)
  | ((with_reducible apply hp_same); (with_reducible assumption); lcg_off)
  | ((with_reducible apply hp_frm); (with_reducible assumption); lcg_src; lcg_off)
  | ((with_reducible apply hp_frm2); (with_reducible assumption); lcg_src; lcg_src; lcg_off)
  | assumption)
local macro_rules | `(tactic| kpt_turns) => `(tactic| first
  | with_reducible assumption
  | ((with_reducible apply SqL.of); lcg_off)
  | ((with_reducible apply SqT.of); lcg_off)
  | ((with_reducible apply Frm.seq); (with_reducible assumption); lcg_src; kpt_turns)
  | ((with_reducible apply Frm.tup); (with_reducible assumption); lcg_src; kpt_turns)
  | ((with_reducible apply Frm2.seq); (with_reducible assumption); lcg_src; lcg_src; kpt_turns)
  | ((with_reducible apply Frm2.tup); (with_reducible assumption); lcg_src; lcg_src; kpt_turns)
  | ((with_reducible apply L2.Same.seq); (with_reducible assumption); kpt_turns)
  | ((with_reducible apply Same.tup); (with_reducible assumption); kpt_turns)
  | assumption)
local macro_rules | `(tactic| k_memK) => `(tactic| first
  | with_reducible exact Frm.refl _
  | with_reducible assumption
  | ((with_reducible apply Frm.trN); (with_reducible assumption); k_memK)
  | ((with_reducible apply Frm.trU); k_memK)
  | ((with_reducible apply Frm.trM); (with_reducible assumption); k_memK)
  | ((with_reducible apply Frm.tr); (with_reducible assumption); k_memK)
  | ((with_reducible apply Frm.trS); (with_reducible assumption); k_memK)
  | with_reducible exact Frm2.refl _
  | ((with_reducible apply Frm2.trN); (with_reducible assumption); k_memK)
  | ((with_reducible apply Frm2.trU); k_memK)
  | ((with_reducible apply Frm2.trV); k_memK)
  | ((with_reducible apply Frm2.trM); (with_reducible assumption); k_memK)
  | ((with_reducible apply Frm2.tr); (with_reducible assumption); k_memK)
  | ((with_reducible apply Frm2.trS); (with_reducible assumption); k_memK))
local macro_rules | `(tactic| k_allIn) => `(tactic| first
  | with_reducible exact L2.Same.refl _
  | with_reducible assumption
  | ((with_reducible apply same_trN); (with_reducible assumption); k_allIn)
  | ((with_reducible apply same_trU); (with_reducible assumption); k_allIn)
  | ((with_reducible apply same_tr); (with_reducible assumption); k_allIn))
local macro_rules | `(tactic| k_ownIn) => `(tactic| first
  | with_reducible refine st_seq ?_
  | ((with_reducible refine' st_setF ?e ?_); (case e => intro x; (simp only [List.set_cons_zero, List.set_cons_succ]; exact rfl)))
  | with_reducible refine st_c ?_
  | ((with_reducible refine' st_var ?h ?_); (case h => exact rfl))
  | with_reducible refine st_op ?_
  | with_reducible refine st_I0 ?_
  | ((with_reducible refine' st_powL ?c ?e ?_); (case c => exact ⟨by decide, by decide, by decide⟩); (case e => (simp only [Int.reduceToNat, Int.reducePow]; exact rfl)))
  | ((with_reducible refine st_I ?h ?_); (case h => first | with_reducible assumption | (show (0 : Int) < _; omega) | exact ⟨by omega, by omega⟩ | exact .inl ⟨by omega, by omega⟩ | exact .inr ⟨by omega, by omega⟩ | exact ⟨by omega, by omega, by omega⟩))
  | with_reducible refine st_nil ?_
  | with_reducible refine st_cons ?_
  | with_reducible refine st_ret ?_
  | with_reducible refine st_call ?_
  | with_reducible refine st_cb ?_
  | with_reducible refine st_exb ?_
  | ((with_reducible refine' st_ixL ?h1 ?h2 ?_); (case h1 => kpt_turns); (case h2 => first | ((with_reducible apply at0); exact rfl) | ((with_reducible apply at1); exact rfl) | ((with_reducible apply at2); exact rfl) | ((with_reducible apply at3); exact rfl) | with_reducible assumption))
  | ((with_reducible refine' st_ixT ?h1 ?h2 ?_); (case h1 => kpt_turns); (case h2 => first | ((with_reducible apply at0); exact rfl) | ((with_reducible apply at1); exact rfl) | ((with_reducible apply at2); exact rfl) | with_reducible assumption))
  | ((with_reducible refine' st_ixP ?h1 ?h2 ?h3 ?h4 ?_); (case h1 => kpt_turns); (case h2 => (repeat constructor)); (case h3 => omega); (case h4 => (simp; omega)))
  | ((with_reducible refine' st_ixPT ?h1 ?h2 ?h3 ?h4 ?_); (case h1 => kpt_turns); (case h2 => (repeat constructor)); (case h3 => omega); (case h4 => (simp; omega)))
  | with_reducible refine st_tB ?_
  | with_reducible refine st_test ?_
  | with_reducible refine st_and ?_
  | with_reducible refine st_or ?_
  | with_reducible refine st_not ?_
  | with_reducible refine st_andV ?_
  | with_reducible refine st_orV ?_
  | with_reducible refine st_notV ?_
  | with_reducible refine st_chain ?_
  | with_reducible refine st_iT ?_
  | with_reducible refine st_iF ?_
  | with_reducible refine st_iNT ?_
  | with_reducible refine st_iNF ?_
  | with_reducible refine st_iRf ?_
  | with_reducible refine st_iNRf ?_
  | with_reducible refine st_asg ?_
  | ((with_reducible refine' st_parF ?e ?_); (case e => intro x y; (simp only [List.set_cons_zero, List.set_cons_succ]; exact rfl)))
  | with_reducible refine st_par2 ?_
  | with_reducible refine st_fst ?_
  | with_reducible refine st_jsE ?_
  | with_reducible refine st_js ?_
  | with_reducible refine st_fmt ?_
  | with_reducible refine st_joinK ?_
  | with_reducible refine st_strx ?_
  | ((with_reducible refine' st_par3F ?e ?_); (case e => intro x y z; (simp only [List.set_cons_zero, List.set_cons_succ]; exact rfl)))
  | with_reducible refine st_par3 ?_
  | ((with_reducible refine' st_augF ?h ?e ?_); (case h => exact rfl); (case e => intro x; (simp only [List.set_cons_zero, List.set_cons_succ]; exact rfl)))
  | with_reducible refine st_ipI ?_
  | with_reducible refine st_drop ?_
  | with_reducible refine st_next ?_
  | with_reducible refine st_un ?_
  | with_reducible refine st_U ?_
  | ((with_reducible refine' st_gNF ?e ?_); (case e => (simp only [List.set_cons_zero, List.set_cons_succ]; exact rfl)))
  | with_reducible refine st_gN ?_
  | ((with_reducible refine' st_gT ?h1 ?h2 ?_); (case h1 => kpt_turns); (case h2 => exact rfl))
  | with_reducible refine st_gC ?_
  | with_reducible refine st_gE ?_
  | with_reducible refine st_gS ?_
  | ((with_reducible refine' st_setL ?h1 ?h2 ?_); (case h1 => lcg_off); (case h2 => exact rfl))
  | with_reducible refine st_lst ?_
  | with_reducible refine st_tup ?_
  | ((with_reducible refine st_new ?h ?_); (case h => (simp; done)))
  | with_reducible refine st_callN ?_
  | with_reducible refine st_bm ?_
  | with_reducible refine st_bm0 ?_
  | ((with_reducible refine' st_tyL ?h ?_); (case h => kpt_turns))
  | ((with_reducible refine st_eq ?h ?_); (case h => exact rfl))
  | ((with_reducible refine st_ne ?h ?_); (case h => exact rfl))
  | with_reducible refine st_i1 ?_
  | with_reducible refine st_i2 ?_
  | with_reducible refine st_int ?_
  | with_reducible refine st_intb ?_
  | ((with_reducible refine' st_lenQ ?h ?_); (case h => kpt_turns))
  | ((with_reducible refine' st_lenQT ?h ?_); (case h => kpt_turns))
  | with_reducible refine st_yes ?_
  | with_reducible refine st_brk ?_
  | with_reducible refine st_cont ?_
  | with_reducible refine st_retN ?_
  | with_reducible refine st_forI ?_
  | with_reducible refine st_lcI ?_
  | with_reducible refine st_itL ?_
  | with_reducible refine st_itT ?_
  | with_reducible refine st_rng1 ?_
  | with_reducible refine st_rng2 ?_
  | with_reducible refine st_ref ?_
  | with_reducible refine st_sl ?_
  | with_reducible refine st_pN ?_
  | with_reducible refine st_pS ?_
  | with_reducible refine st_pI ?_
  | (refine ⟨rfl, ?_⟩))
local macro_rules | `(tactic| cell_call) => `(tactic| first
  | with_reducible refine st_seq ?_
  | ((with_reducible refine' st_setF ?e ?_); (case e => intro x; (simp only [List.set_cons_zero, List.set_cons_succ]; exact rfl)))
  | with_reducible refine st_c ?_
  | ((with_reducible refine' st_var ?h ?_); (case h => exact rfl))
  | with_reducible refine st_op ?_
  | with_reducible refine st_I0 ?_
  | ((with_reducible refine' st_powL ?c ?e ?_); (case c => exact ⟨by decide, by decide, by decide⟩); (case e => (simp only [Int.reduceToNat, Int.reducePow]; exact rfl)))
  | ((with_reducible refine st_I ?h ?_); (case h => first | with_reducible assumption | (show (0 : Int) < _; omega) | exact ⟨by omega, by omega⟩ | exact .inl ⟨by omega, by omega⟩ | exact .inr ⟨by omega, by omega⟩ | exact ⟨by omega, by omega, by omega⟩))
  | with_reducible refine st_nil ?_
  | with_reducible refine st_cons ?_
  | with_reducible refine st_ret ?_
  | with_reducible refine st_call ?_
  | with_reducible refine st_cb ?_
  | with_reducible refine st_exb ?_
  | ((with_reducible refine' st_ixL ?h1 ?h2 ?_); (case h1 => kpt_turns); (case h2 => first | ((with_reducible apply at0); exact rfl) | ((with_reducible apply at1); exact rfl) | ((with_reducible apply at2); exact rfl) | ((with_reducible apply at3); exact rfl) | with_reducible assumption))
  | ((with_reducible refine' st_ixT ?h1 ?h2 ?_); (case h1 => kpt_turns); (case h2 => first | ((with_reducible apply at0); exact rfl) | ((with_reducible apply at1); exact rfl) | ((with_reducible apply at2); exact rfl) | with_reducible assumption))
  | ((with_reducible refine' st_ixP ?h1 ?h2 ?h3 ?h4 ?_); (case h1 => kpt_turns); (case h2 => (repeat constructor)); (case h3 => omega); (case h4 => (simp; omega)))
  | ((with_reducible refine' st_ixPT ?h1 ?h2 ?h3 ?h4 ?_); (case h1 => kpt_turns); (case h2 => (repeat constructor)); (case h3 => omega); (case h4 => (simp; omega)))
  | with_reducible refine st_tB ?_
  | with_reducible refine st_test ?_
  | with_reducible refine st_and ?_
  | with_reducible refine st_or ?_
  | with_reducible refine st_not ?_
  | with_reducible refine st_andV ?_
  | with_reducible refine st_orV ?_
  | with_reducible refine st_notV ?_
  | with_reducible refine st_chain ?_
  | with_reducible refine st_iT ?_
  | with_reducible refine st_iF ?_
  | with_reducible refine st_iNT ?_
  | with_reducible refine st_iNF ?_
  | with_reducible refine st_iRf ?_
  | with_reducible refine st_iNRf ?_
  | with_reducible refine st_asg ?_
  | ((with_reducible refine' st_parF ?e ?_); (case e => intro x y; (simp only [List.set_cons_zero, List.set_cons_succ]; exact rfl)))
  | with_reducible refine st_par2 ?_
  | with_reducible refine st_fst ?_
  | with_reducible refine st_jsE ?_
  | with_reducible refine st_js ?_
  | with_reducible refine st_fmt ?_
  | with_reducible refine st_joinK ?_
  | with_reducible refine st_strx ?_
  | ((with_reducible refine' st_par3F ?e ?_); (case e => intro x y z; (simp only [List.set_cons_zero, List.set_cons_succ]; exact rfl)))
  | with_reducible refine st_par3 ?_
  | ((with_reducible refine' st_augF ?h ?e ?_); (case h => exact rfl); (case e => intro x; (simp only [List.set_cons_zero, List.set_cons_succ]; exact rfl)))
  | with_reducible refine st_ipI ?_
  | with_reducible refine st_drop ?_
  | with_reducible refine st_next ?_
  | with_reducible refine st_un ?_
  | with_reducible refine st_U ?_
  | ((with_reducible refine' st_gNF ?e ?_); (case e => (simp only [List.set_cons_zero, List.set_cons_succ]; exact rfl)))
  | with_reducible refine st_gN ?_
  | ((with_reducible refine' st_gT ?h1 ?h2 ?_); (case h1 => kpt_turns); (case h2 => exact rfl))
  | with_reducible refine st_gC ?_
  | with_reducible refine st_gE ?_
  | with_reducible refine st_gS ?_
  | ((with_reducible refine' st_setL ?h1 ?h2 ?_); (case h1 => lcg_off); (case h2 => exact rfl))
  | with_reducible refine st_lst ?_
  | with_reducible refine st_tup ?_
  | ((with_reducible refine st_new ?h ?_); (case h => (simp; done)))
  | with_reducible refine st_callN ?_
  | with_reducible refine st_bm ?_
  | with_reducible refine st_bm0 ?_
  | ((with_reducible refine' st_tyL ?h ?_); (case h => kpt_turns))
  | ((with_reducible refine st_eq ?h ?_); (case h => exact rfl))
  | ((with_reducible refine st_ne ?h ?_); (case h => exact rfl))
  | with_reducible refine st_i1 ?_
  | with_reducible refine st_i2 ?_
  | with_reducible refine st_int ?_
  | with_reducible refine st_intb ?_
  | ((with_reducible refine' st_lenQ ?h ?_); (case h => kpt_turns))
  | ((with_reducible refine' st_lenQT ?h ?_); (case h => kpt_turns))
  | with_reducible refine st_yes ?_
  | with_reducible refine st_brk ?_
  | with_reducible refine st_cont ?_
  | with_reducible refine st_retN ?_
  | with_reducible refine st_forI ?_
  | with_reducible refine st_lcI ?_
  | with_reducible refine st_itL ?_
  | with_reducible refine st_itT ?_
  | with_reducible refine st_rng1 ?_
  | with_reducible refine st_rng2 ?_
  | with_reducible refine st_ref ?_
  | with_reducible refine st_sl ?_
  | with_reducible refine st_pN ?_
  | with_reducible refine st_pS ?_
  | with_reducible refine st_pI ?_
  | (refine ⟨rfl, ?_⟩)
  | with_reducible refine st_ifE ?_
  | with_reducible refine st_ifS ?_)
local macro_rules | `(tactic| kpf_close) => `(tactic| first
  | cell_call
  | refine st_iD (fun _ => ?_) (fun _ => ?_)
  | refine st_iND (fun _ => ?_) (fun _ => ?_)
  | refine st_iNB (fun _ => ?_) (fun _ => ?_)
  | refine st_iB (fun _ => ?_) (fun _ => ?_))
local macro_rules | `(tactic| k_places) => `(tactic| first
  | with_reducible refine isi_non_bool ?_
  | with_reducible refine isi_non_int ?_
  | with_reducible refine isi_non_str ?_
  | with_reducible refine isi_non_list ?_
  | with_reducible refine isi_non_tuple ?_
  | with_reducible refine isi_bl_bool ?_
  | with_reducible refine isi_bl_int ?_
  | with_reducible refine isi_bl_str ?_
  | with_reducible refine isi_bl_list ?_
  | with_reducible refine isi_bl_tuple ?_
  | with_reducible refine isi_int_bool ?_
  | with_reducible refine isi_int_int ?_
  | with_reducible refine isi_int_str ?_
  | with_reducible refine isi_int_list ?_
  | with_reducible refine isi_int_tuple ?_
  | with_reducible refine isi_str_bool ?_
  | with_reducible refine isi_str_int ?_
  | with_reducible refine isi_str_str ?_
  | with_reducible refine isi_str_list ?_
  | with_reducible refine isi_str_tuple ?_
  | ((with_reducible refine' isi_list_bool ?h ?_); (case h => kpt_turns))
  | ((with_reducible refine' isi_list_int ?h ?_); (case h => kpt_turns))
  | ((with_reducible refine' isi_list_str ?h ?_); (case h => kpt_turns))
  | ((with_reducible refine' isi_list_list ?h ?_); (case h => kpt_turns))
  | ((with_reducible refine' isi_list_tuple ?h ?_); (case h => kpt_turns))
  | ((with_reducible refine' isi_tuple_bool ?h ?_); (case h => kpt_turns))
  | ((with_reducible refine' isi_tuple_int ?h ?_); (case h => kpt_turns))
  | ((with_reducible refine' isi_tuple_str ?h ?_); (case h => kpt_turns))
  | ((with_reducible refine' isi_tuple_list ?h ?_); (case h => kpt_turns))
  | ((with_reducible refine' isi_tuple_tuple ?h ?_); (case h => kpt_turns)))
local macro_rules | `(tactic| cell_call) => `(tactic| first
  | with_reducible refine st_zip ?_)
local macro_rules | `(tactic| k_ownIn) => `(tactic| first
  | with_reducible refine st_zip ?_)
local macro_rules | `(tactic| cell_call) => `(tactic| first
  | with_reducible refine st_veI ?_
  | with_reducible refine st_ost ?_
  | with_reducible refine st_mko ?_
  | with_reducible refine st_xv ?_
  | with_reducible refine st_lrg ?_
  | with_reducible refine st_callS ?_
  | with_reducible refine st_rg2 ?_
  | with_reducible refine st_rgE ?_)
local macro_rules | `(tactic| k_ownIn) => `(tactic| first
  | with_reducible refine st_veI ?_
  | with_reducible refine st_ost ?_
  | with_reducible refine st_mko ?_
  | with_reducible refine st_xv ?_
  | with_reducible refine st_lrg ?_
  | with_reducible refine st_callS ?_
  | with_reducible refine st_rg2 ?_
  | with_reducible refine st_rgE ?_)
local macro_rules | `(tactic| cell_call) => `(tactic| first
  | with_reducible refine st_inC ?_
  | with_reducible refine st_itS ?_
  | with_reducible refine st_itS1 ?_)
local macro_rules | `(tactic| k_ownIn) => `(tactic| first
  | with_reducible refine st_inC ?_
  | with_reducible refine st_itS ?_
  | with_reducible refine st_itS1 ?_)
local macro_rules | `(tactic| cell_call) => `(tactic| first
  | with_reducible refine st_notInC ?_
  | with_reducible refine st_turnS ?_
  | with_reducible refine st_callT ?_)
local macro_rules | `(tactic| k_ownIn) => `(tactic| first
  | with_reducible refine st_notInC ?_
  | with_reducible refine st_turnS ?_
  | with_reducible refine st_callT ?_)
section
variable {P : Program} {w : World} {K : PySem.W.Frag} {mg : Str → Option Value} {base : Heap}
def sp_law_draw (K : PySem.W.Frag) : Sp := fun vs H Q _ => ∃ (S D : Addr) (m c : Int), vs = [.ref S, .int m] ∧ SrcAt H S D c ∧ c ≤ 1000000000000 ∧ 0 < m ∧ m ≤ 10000000000000000000000000000000000000000000000000000000000000 ∧
  ∀ r H', 0 ≤ r → r < m → SrcAt H' S D (c + 1) → Frm2 S D H H' → Q (.int r) H'
theorem ok_law_draw (T : Txt K mg) : FnOk P w K mg base CX0 1 (He.ga K "_law_draw") T.fd_law_draw ["source", "many"] (sp_law_draw K) := by
  refine T.F_law_draw.ok sc_law_draw (fun vs H Q E h => ?_) (fun cdv A outer s H vs Q E hr h => ?_)
  · obtain ⟨S, D, m, c, rfl, _⟩ := h
    rfl
  · obtain ⟨S, D, m, c, rfl, P0, hc, m0, m1, q⟩ := h
    refine ⟨_, PSs.nox (pss_cons (ps_while PassesOwn.never (PW.pt (pw_and (pt_cmpR op_lt (pe_ix (show IxR _ (rIxL K) from ix_list) (pv 0) pe_int (fun _ _ => rfl)) pe_int (nomark _)) (pw_and1 (pt_cmpR (show OpR _ _ (rNeD K) from (op_neD hr.units)) (pe_ix (show IxR _ (rIxL K) from ix_list) (pv 0) pe_int (fun _ _ => rfl)) (pe_lst pa_nil) (nomark _))))) (pss_one (ps_asg (show PE _ _ (tBM K _ _ _ _) from pe_bm PySem.F.plainAttrs_list PySem.F.slot_list_pop PySem.F.type_list_pop mt_popAt (pe_ix (show IxR _ (rIxL K) from ix_list) (pv 0) pe_int (fun _ _ => rfl)) (pa_cons pe_int pa_nil)) (pg_sub (pv 0) pe_int set_list))))
      (pss_cons (ps_if (pt_cmpR op_ge (pe_ix (show IxR _ (rIxL K) from ix_list) (pv 0) pe_int (fun _ _ => rfl)) pe_int (nomark _)) (pss_cons (ps_set (i := 2) sc_law_draw.nd rfl (Or.inl rfl) (pe_op op_mod (pe_ix (show IxR _ (rIxL K) from ix_list) (pv 0) pe_int (fun _ _ => rfl)) (pv 1)))
      (pss_cons (ps_asg (pe_op op_fdivW (pe_ix (show IxR _ (rIxL K) from ix_list) (pv 0) pe_int (fun _ _ => rfl)) (pv 1)) (pg_sub (pv 0) pe_int set_list))
      (pss_one (ps_ret (pv 2))))) pss_nil)
      (pss_cons (ps_asg (pe_op op_add (pe_ix (show IxR _ (rIxL K) from ix_list) (pv 0) pe_int (fun _ _ => rfl)) pe_int) (pg_sub (pv 0) pe_int set_list))
      (pss_cons (ps_set (i := 3) sc_law_draw.nd rfl (Or.inl rfl) (pe_op op_mulW (pe_op op_add (pe_ix (show IxR _ (rIxL K) from ix_list) (pv 0) pe_int (fun _ _ => rfl)) pe_int) (pe_op op_powW (pe_op op_add (pe_ix (show IxR _ (rIxL K) from ix_list) (pv 0) pe_int (fun _ _ => rfl)) pe_int) pe_int)))
      (pss_cons (ps_set (i := 3) sc_law_draw.nd rfl (Or.inl rfl) (pe_op op_mod (pe_op op_add (pv 3) (pe_op op_mul pe_int (pe_ix (show IxR _ (rIxL K) from ix_list) (pv 0) pe_int (fun _ _ => rfl)))) (pe_op op_sub (pe_op op_pow pe_int pe_int) pe_int)))
      (pss_one (ps_ret (pe_op op_mod (pe_op op_fdiv (pe_op op_mod (pe_op op_powW (pv 3) pe_int) (pe_op op_add (pe_op op_pow pe_int pe_int) pe_int)) pe_int) (pv 1))))))))), ?_⟩
    rw [start_law_draw]
    repeat k_ownIn
    have hSD := P0.ne
    refine st_cutS (fun σ' H' => (∃ x y, σ' = [some (.ref S), some (.int m), x, y]) ∧ (∃ a b n : Int, H' S = some (.lst [.ref D, .int a, .int b, .int n]) ∧ 0 ≤ b ∧ b ≤ 2305843009213693951 ∧ 0 ≤ n ∧ n ≤ c) ∧
      (∃ ds : List Int, H' D = some (.lst (ds.map V.int))) ∧ Frm2 S D H H') ?_ ?_
    · rintro σ1 H1 ⟨⟨x, y, rfl⟩, ⟨a, b, n, hS, b0, b1, n0, n1⟩, ⟨ds, hD⟩, F1⟩
      repeat cell_call
      refine st_iD (fun h1 => ?_) (fun h1 => ?_)
      · repeat cell_call
        refine st_I (wide_div m0 (b := 300) (nat_of (by omega) (by omega)) (by decide) (by decide)) ?_
        repeat cell_call
        refine q _ _ (Int.emod_nonneg _ (by omega)) (Int.emod_lt_of_pos _ m0) ⟨hSD, ⟨_, b, n, upd_same, b0, b1, n0, by omega⟩, ds, ?_⟩ (by k_memK)
        rw [upd_ne hSD.symm]
        exact hD
      · repeat cell_call
        refine st_I (powW_of (b := 60) (nat_of (by omega) (by omega)) (by decide) (by decide) (by decide)) ?_
        have hp : ((n + 1 + 3) ^ (3 : Int).toNat).natAbs < 2 ^ 180 := by
          rw [Int.natAbs_pow]
          exact Nat.lt_of_lt_of_le (Nat.pow_lt_pow_left (nat_of (b := 60) (by omega) (by omega)) (by decide)) (by decide)
        refine st_I (wide_mul (a := 70) (nat_of (by omega) (by omega)) hp (by decide) (by decide) (by decide)) ?_
        repeat cell_call
        refine st_I (powW_of (b := 70) (nat_of (by omega) (by omega)) (by decide) (by decide) (by decide)) ?_
        repeat cell_call
        refine q _ _ (Int.emod_nonneg _ (by omega)) (Int.emod_lt_of_pos _ m0) ⟨hSD, ⟨_, b, _, upd_same, b0, b1, by omega, by omega⟩, ds, ?_⟩ (by k_memK)
        rw [upd_ne hSD.symm]
        exact hD
    · intro nx hk
      refine st_wh (fun k σ' H' => (∃ x y, σ' = [some (.ref S), some (.int m), x, y]) ∧ (∃ a b n : Int, H' S = some (.lst [.ref D, .int a, .int b, .int n]) ∧ 0 ≤ b ∧ b ≤ 2305843009213693951 ∧ 0 ≤ n ∧ n ≤ c) ∧
        (∃ ds : List Int, H' D = some (.lst (ds.map V.int)) ∧ ds.length = k) ∧ Frm2 S D H H') ?_ ?_
      · obtain ⟨_, hs, ds, hd⟩ := P0
        exact ⟨ds.length, ⟨none, none, rfl⟩, hs, ⟨ds, hd, rfl⟩, Frm2.refl _⟩
      · rintro k σ1 H1 ⟨⟨x, y, rfl⟩, ⟨a, b, n, hS, b0, b1, n0, n1⟩, ⟨ds, hD, hkk⟩, F1⟩
        repeat cell_call
        refine st_iD (fun h1 => ?_) (fun h1 => ?_)
        · repeat cell_call
          intro p np
          have eS : S ≠ p := ne_of_none hS np
          have eD : D ≠ p := ne_of_none hD np
          refine st_neNil (ns := ds) (SqL.of (by lcg_off)) (SqL.of upd_same) ?_
          repeat cell_call
          have F2 : Frm2 S D H (upd H1 p (.lst [])) := by k_memK
          cases ds with
          | nil =>
            refine iteF (hk _ _ ⟨⟨x, y, rfl⟩, ⟨a, b, n, by lcg_off, b0, b1, n0, n1⟩, ⟨[], by lcg_off⟩, F2⟩)
          | cons d ds =>
            refine iteT (st_whN ?_)
            have hD2 : (upd H1 p (.lst [])) D = some (.lst (.int d :: ds.map V.int)) := by lcg_off
            repeat cell_call
            refine st_popAt hD2 ?_
            repeat cell_call
            refine ⟨ds.length, by rw [List.length_cons] at hkk; omega, ⟨x, y, rfl⟩, ⟨_, b, n, upd_same, b0, b1, n0, n1⟩, ⟨ds, ?_, rfl⟩, by k_memK⟩
            rw [upd_ne hSD.symm, upd_same]
        · repeat cell_call
          exact hk _ _ ⟨⟨x, y, rfl⟩, ⟨a, b, n, hS, b0, b1, n0, n1⟩, ⟨ds, hD⟩, F1⟩

def sp_law_same (K : PySem.W.Frag) (n : Nat) : Sp := fun vs H Q _ => ∃ (x y : V) (d : PyData), vs = [x, y] ∧ Dp K H x d ∧ Dp K H y d ∧ d.canLay0 = true ∧ d.depth < n ∧ cntD d ≤ 1152921504606846976 ∧ ∀ H', Same H H' → Q (.bl true) H'
theorem ok_law_same (T : Txt K mg) (n : Nat) : FnOk P w K mg base CX0 (n + 1) (He.ga K "_law_same") T.fd_law_same ["found", "wanted"] (sp_law_same K n) := by
  induction n with
  | zero => exact ⟨fun vs H Q E h => (by obtain ⟨_, _, _, _, _, _, _, h, _⟩ := h; exact absurd h (Nat.not_lt_zero _)), fun A outer s H args us vs Q E hr e0 hb hv h => (by obtain ⟨_, _, _, _, _, _, _, h, _⟩ := h; exact absurd h (Nat.not_lt_zero _))⟩
  | succ n ih =>
  refine T.F_law_same.ok sc_law_same (fun vs H Q E h => ?_) (fun cdv A outer s H vs Q E hr h => ?_)
  · obtain ⟨x, y, d, rfl, _⟩ := h
    rfl
  · obtain ⟨x, y, d, rfl, hx, hy, hl, hd, hc, q⟩ := h
    refine ⟨_, PSs.nox (pss_cons (ps_if (pt_cmpR op_isN (pv 1) pe_non (nomark _)) (pss_one (ps_ret (pe_cmpR op_isN (pv 0) pe_non (nomark _)))) pss_nil)
      (pss_cons (ps_if (pt_val (pe_callB (show CallR _ _ (rIsi K) from call_isi) (by rfl) T.b_isinstance (by decide +kernel) (pa_cons (pv 1) (pa_cons (pe_bltn (v := .ty "bool") (by rfl) T.b_bool (by decide +kernel) rfl) pa_nil)))) (pss_one (ps_ret (pe_and (pe_callB (show CallR _ _ (rIsi K) from call_isi) (by rfl) T.b_isinstance (by decide +kernel) (pa_cons (pv 0) (pa_cons (pe_bltn (v := .ty "bool") (by rfl) T.b_bool (by decide +kernel) rfl) pa_nil))) (pe_one (pe_cmpR op_eq (pv 0) (pv 1) (nomark _)))))) pss_nil)
      (pss_cons (ps_if (pt_val (pe_callB (show CallR _ _ (rIsi K) from call_isi) (by rfl) T.b_isinstance (by decide +kernel) (pa_cons (pv 1) (pa_cons (pe_bltn (v := .ty "int") (by rfl) T.b_int (by decide +kernel) rfl) pa_nil)))) (pss_one (ps_ret (pe_and (pe_callB (show CallR _ _ (rIsi K) from call_isi) (by rfl) T.b_isinstance (by decide +kernel) (pa_cons (pv 0) (pa_cons (pe_bltn (v := .ty "int") (by rfl) T.b_int (by decide +kernel) rfl) pa_nil))) (pe_and (pe_not (pe_callB (show CallR _ _ (rIsi K) from call_isi) (by rfl) T.b_isinstance (by decide +kernel) (pa_cons (pv 0) (pa_cons (pe_bltn (v := .ty "bool") (by rfl) T.b_bool (by decide +kernel) rfl) pa_nil)))) (pe_one (pe_cmpR op_eq (pv 0) (pv 1) (nomark _))))))) pss_nil)
      (pss_cons (ps_if (pt_val (pe_callB (show CallR _ _ (rIsi K) from call_isi) (by rfl) T.b_isinstance (by decide +kernel) (pa_cons (pv 1) (pa_cons (pe_bltn (v := .ty "str") (by rfl) T.b_str (by decide +kernel) rfl) pa_nil)))) (pss_one (ps_ret (pe_and (pe_callB (show CallR _ _ (rIsi K) from call_isi) (by rfl) T.b_isinstance (by decide +kernel) (pa_cons (pv 0) (pa_cons (pe_bltn (v := .ty "str") (by rfl) T.b_str (by decide +kernel) rfl) pa_nil))) (pe_one (pe_cmpR op_eq (pv 0) (pv 1) (nomark _)))))) pss_nil)
      (pss_cons (ps_if (pt_cmpR op_ne (pe_callB (show CallR _ _ (rIsi K) from call_isi) (by rfl) T.b_isinstance (by decide +kernel) (pa_cons (pv 0) (pa_cons (pe_bltn (v := .ty "list") (by rfl) T.b_list (by decide +kernel) rfl) pa_nil))) (pe_callB (show CallR _ _ (rIsi K) from call_isi) (by rfl) T.b_isinstance (by decide +kernel) (pa_cons (pv 1) (pa_cons (pe_bltn (v := .ty "list") (by rfl) T.b_list (by decide +kernel) rfl) pa_nil))) (nomark _)) (pss_one (ps_ret pe_bl)) pss_nil)
      (pss_cons (ps_if (PW.pt (pw_or (pt_cmpR op_ne (pe_callB (show CallR _ _ (rIsi K) from call_isi) (by rfl) T.b_isinstance (by decide +kernel) (pa_cons (pv 0) (pa_cons (pe_bltn (v := .ty "tuple") (by rfl) T.b_tuple (by decide +kernel) rfl) pa_nil))) (pe_callB (show CallR _ _ (rIsi K) from call_isi) (by rfl) T.b_isinstance (by decide +kernel) (pa_cons (pv 1) (pa_cons (pe_bltn (v := .ty "tuple") (by rfl) T.b_tuple (by decide +kernel) rfl) pa_nil))) (nomark _)) (pw_or1 (pt_cmpR op_neI (pe_callB (show CallR _ _ (rLenQ K) from call_lenQ) (by rfl) T.b_len PySem.boot_len (pa_cons (pv 0) pa_nil)) (pe_callB (show CallR _ _ (rLenQ K) from call_lenQ) (by rfl) T.b_len PySem.boot_len (pa_cons (pv 1) pa_nil)) (nomark _))))) (pss_one (ps_ret pe_bl)) pss_nil)
      (pss_one (ps_ret (pe_cmpR (show OpR _ _ (rEqD K) from (op_eqD hr.units)) (pe_lc (own := [("k", 2)]) (g := gName 2) rfl sc_law_same.nd (pi_range1 (by rfl) T.b_range (pa_cons (pe_callB (show CallR _ _ (rLenQ K) from call_lenQ) (by rfl) T.b_len PySem.boot_len (pa_cons (pv 1) pa_nil)) pa_nil)) (blkOk_by (N := N_law_same) (sc := defScope s_law_same) (by decide +kernel)) (fun _ _ _ _ _ => (pg_name (i := 2) sc_law_same.nd rfl (Or.inl rfl))) (fun _ _ _ _ _ => (pts_one (pt_not (pt_val (pe_call ih hr rfl T.g_law_same T.F_law_same.kp (b_law_same T) .nil pass0 (pa_cons (pe_ix (show IxR _ (rIx K) from ix_seq) (pv 0) (pv 2) (fun _ _ => rfl)) (pa_cons (pe_ix (show IxR _ (rIx K) from ix_seq) (pv 1) (pv 2) (fun _ _ => rfl)) pa_nil))))))) (fun _ _ _ _ _ => (pv 2))) (pe_lst pa_nil) (nomark _)))))))))), ?_⟩
    rw [start_law_same]
    cases hx with
    | non =>
      cases hy
      repeat cell_call
      exact q H (Same.refl H)
    | bl b =>
      cases hy
      repeat (first | cell_call | k_places)
      rw [decide_eq_false (by intro z; cases z)]
      repeat (first | cell_call | k_places)
      rw [decide_eq_true rfl]
      exact q H (Same.refl H)
    | int i =>
      cases hy
      repeat (first | cell_call | k_places)
      rw [decide_eq_false (by intro z; cases z)]
      repeat (first | cell_call | k_places)
      rw [decide_eq_true rfl]
      exact q H (Same.refl H)
    | str i =>
      cases hy
      repeat (first | cell_call | k_places)
      rw [decide_eq_false (by intro z; cases z)]
      repeat (first | cell_call | k_places)
      rw [decide_eq_true rfl]
      exact q H (Same.refl H)
    | @lst a xs ds h1 h2 =>
      cases hy with
      | @lst a' xs' _ h3 h4 =>
      repeat (first | cell_call | k_places)
      rw [decide_eq_false (by intro z; cases z)]
      repeat (first | cell_call | k_places)
      have el : xs.length = xs'.length := by rw [DpAll.len h2, DpAll.len h4]
      have e2 : (xs.length : Int) = (xs'.length : Int) := by rw [el]
      rw [decide_eq_true e2]
      repeat (first | cell_call | k_places)
      have ell : xs'.length < 4611686018427387904 := by
        have l1 := cntA_len ds
        have l2 := DpAll.len h4
        unfold cntD at hc
        omega
      refine ⟨by omega, by omega, fun L nL => ?_⟩
      have sL : Same H (upd H L (.lst [])) := Same.new nL
      refine lc_range (lo := 0) (n := (xs'.length : Int).toNat) (fun i H' => Same H H' ∧ H' L = some (.lst [])) ⟨sL, upd_same⟩ (fun i H1 hi e => ?_) (fun H1 e => ?_)
      · obtain ⟨sm, hL⟩ := e
        have hi1 : i < xs.length := by omega
        have hi2 : i < xs'.length := by omega
        obtain ⟨d1, g1, g2⟩ := DpAll.get h2 (List.getElem?_eq_getElem hi1)
        obtain ⟨d2, g3, g4⟩ := DpAll.get h4 (List.getElem?_eq_getElem hi2)
        have ed : d1 = d2 := Option.some.inj (g1.symm.trans g3)
        subst ed
        repeat (first | cell_call | k_places)
        rw [Int.zero_add]
        refine st_ixSL (L2.Same.seq sm h1) (atI_nat (List.getElem?_eq_getElem hi1)) ?_
        repeat (first | cell_call | k_places)
        refine st_ixSL (L2.Same.seq sm h3) (atI_nat (List.getElem?_eq_getElem hi2)) ?_
        repeat (first | cell_call | k_places)
        refine ⟨_, _, d1, rfl, Dp.same sm g2, Dp.same sm g4, ?_, ?_, by have := cntA_get g1; unfold cntD at hc; omega, fun H2 sm2 => ?_⟩
        · unfold PyData.canLay0 at hl
          exact lay_get hl g1
        · unfold PyData.depth at hd
          have := depth_get g1
          omega
        · repeat (first | cell_call | k_places)
          exact ⟨same_tr sm2 sm, sm2 _ _ hL⟩
      · obtain ⟨sm, hL⟩ := e
        repeat (first | cell_call | k_places)
        intro p np
        refine st_eqD (d := .list []) (.lst (SqL.of (by lcg_off)) .nil) (.lst (SqL.of upd_same) .nil) rfl ?_
        exact q _ (by k_allIn)
    | @tup a xs ds h1 h2 =>
      cases hy with
      | @tup a' xs' _ h3 h4 =>
      repeat (first | cell_call | k_places)
      rw [decide_eq_false (by intro z; cases z)]
      repeat (first | cell_call | k_places)
      have el : xs.length = xs'.length := by rw [DpAll.len h2, DpAll.len h4]
      have e2 : (xs.length : Int) = (xs'.length : Int) := by rw [el]
      rw [decide_eq_true e2]
      repeat (first | cell_call | k_places)
      have ell : xs'.length < 4611686018427387904 := by
        have l1 := cntA_len ds
        have l2 := DpAll.len h4
        unfold cntD at hc
        omega
      refine ⟨by omega, by omega, fun L nL => ?_⟩
      have sL : Same H (upd H L (.lst [])) := Same.new nL
      refine lc_range (lo := 0) (n := (xs'.length : Int).toNat) (fun i H' => Same H H' ∧ H' L = some (.lst [])) ⟨sL, upd_same⟩ (fun i H1 hi e => ?_) (fun H1 e => ?_)
      · obtain ⟨sm, hL⟩ := e
        have hi1 : i < xs.length := by omega
        have hi2 : i < xs'.length := by omega
        obtain ⟨d1, g1, g2⟩ := DpAll.get h2 (List.getElem?_eq_getElem hi1)
        obtain ⟨d2, g3, g4⟩ := DpAll.get h4 (List.getElem?_eq_getElem hi2)
        have ed : d1 = d2 := Option.some.inj (g1.symm.trans g3)
        subst ed
        repeat (first | cell_call | k_places)
        rw [Int.zero_add]
        refine st_ixST (Same.tup sm h1) (atI_nat (List.getElem?_eq_getElem hi1)) ?_
        repeat (first | cell_call | k_places)
        refine st_ixST (Same.tup sm h3) (atI_nat (List.getElem?_eq_getElem hi2)) ?_
        repeat (first | cell_call | k_places)
        refine ⟨_, _, d1, rfl, Dp.same sm g2, Dp.same sm g4, ?_, ?_, by have := cntA_get g1; unfold cntD at hc; omega, fun H2 sm2 => ?_⟩
        · unfold PyData.canLay0 at hl
          exact lay_get hl g1
        · unfold PyData.depth at hd
          have := depth_get g1
          omega
        · repeat (first | cell_call | k_places)
          exact ⟨same_tr sm2 sm, sm2 _ _ hL⟩
      · obtain ⟨sm, hL⟩ := e
        repeat (first | cell_call | k_places)
        intro p np
        refine st_eqD (d := .list []) (.lst (SqL.of (by lcg_off)) .nil) (.lst (SqL.of upd_same) .nil) rfl ?_
        exact q _ (by k_allIn)

end
end Mc
namespace Mc
open PySem PySem.Spec PyProof.Rows L2
open HotX L2H
local macro_rules | `(tactic| lcg_src) => `(tactic| first
  | with_reducible assumption
  | ((with_reducible apply Ne.symm); with_reducible assumption)
  | ((with_reducible apply ne_nf); (with_reducible assumption); lcg_off)
  | ((with_reducible apply Ne.symm); (with_reducible apply ne_nf); (with_reducible assumption); lcg_off))
local macro_rules | `(tactic| lcg_off) => `(tactic| first
  | with_reducible assumption
  | (with_reducible exact upd_same)
  | ((with_reducible apply hp_ne); lcg_src; lcg_off)
  | ((with_reducible apply hp_same); (with_reducible assumption); lcg_off)
  | ((with_reducible apply hp_frm); (with_reducible assumption); lcg_src; lcg_off)
  | ((with_reducible apply hp_frm2); (with_reducible assumption); lcg_src; lcg_src; lcg_off)
  | assumption)
local macro_rules | `(tactic| kpt_turns) => `(tactic| first
  | with_reducible assumption
  | ((with_reducible apply SqL.of); lcg_off)
  | ((with_reducible apply SqT.of); lcg_off)
  | ((with_reducible apply Frm.seq); (with_reducible assumption); lcg_src; kpt_turns)
  | ((with_reducible apply Frm.tup); (with_reducible assumption); lcg_src; kpt_turns)
  | ((with_reducible apply Frm2.seq); (with_reducible assumption); lcg_src; lcg_src; kpt_turns)
  | ((with_reducible apply Frm2.tup); (with_reducible assumption); lcg_src; lcg_src; kpt_turns)
  | ((with_reducible apply L2.Same.seq); (with_reducible assumption); kpt_turns)
  | ((with_reducible apply Same.tup); (with_reducible assumption); kpt_turns)
  | assumption)
local macro_rules | `(tactic| k_memK) => `(tactic| first
  | with_reducible exact Frm.refl _
  | with_reducible assumption
  | ((with_reducible apply Frm.trN); (with_reducible assumption); k_memK)
  | ((with_reducible apply Frm.trU); k_memK)
  | ((with_reducible apply Frm.trM); (with_reducible assumption); k_memK)
  | ((with_reducible apply Frm.tr); (with_reducible assumption); k_memK)
  | ((with_reducible apply Frm.trS); (with_reducible assumption); k_memK)
  | with_reducible exact Frm2.refl _
  | ((with_reducible apply Frm2.trN); (with_reducible assumption); k_memK)
  | ((with_reducible apply Frm2.trU); k_memK)
  | ((with_reducible apply Frm2.trV); k_memK)
  | ((with_reducible apply Frm2.trM); (with_reducible assumption); k_memK)
  | ((with_reducible apply Frm2.tr); (with_reducible assumption); k_memK)
  | ((with_reducible apply Frm2.trS); (with_reducible assumption); k_memK))
local macro_rules | `(tactic| k_allIn) => `(tactic| first
  | with_reducible exact L2.Same.refl _
  | with_reducible assumption
  | ((with_reducible apply same_trN); (with_reducible assumption); k_allIn)
  | ((with_reducible apply same_trU); (with_reducible assumption); k_allIn)
  | ((with_reducible apply same_tr); (with_reducible assumption); k_allIn))
local macro_rules | `(tactic| k_ownIn) => `(tactic| first
  | with_reducible refine st_seq ?_
  | ((with_reducible refine' st_setF ?e ?_); (case e => intro x; (simp only [List.set_cons_zero, List.set_cons_succ]; exact rfl)))
  | with_reducible refine st_c ?_
  | ((with_reducible refine' st_var ?h ?_); (case h => exact rfl))
  | with_reducible refine st_op ?_
  | with_reducible refine st_I0 ?_
  | ((with_reducible refine' st_powL ?c ?e ?_); (case c => exact ⟨by decide, by decide, by decide⟩); (case e => (simp only [Int.reduceToNat, Int.reducePow]; exact rfl)))
  | ((with_reducible refine st_I ?h ?_); (case h => first | with_reducible assumption | (show (0 : Int) < _; omega) | exact ⟨by omega, by omega⟩ | exact .inl ⟨by omega, by omega⟩ | exact .inr ⟨by omega, by omega⟩ | exact ⟨by omega, by omega, by omega⟩))
  | with_reducible refine st_nil ?_
  | with_reducible refine st_cons ?_
  | with_reducible refine st_ret ?_
  | with_reducible refine st_call ?_
  | with_reducible refine st_cb ?_
  | with_reducible refine st_exb ?_
  | ((with_reducible refine' st_ixL ?h1 ?h2 ?_); (case h1 => kpt_turns); (case h2 => first | ((with_reducible apply at0); exact rfl) | ((with_reducible apply at1); exact rfl) | ((with_reducible apply at2); exact rfl) | ((with_reducible apply at3); exact rfl) | with_reducible assumption))
  | ((with_reducible refine' st_ixT ?h1 ?h2 ?_); (case h1 => kpt_turns); (case h2 => first | ((with_reducible apply at0); exact rfl) | ((with_reducible apply at1); exact rfl) | ((with_reducible apply at2); exact rfl) | with_reducible assumption))
  | ((with_reducible refine' st_ixP ?h1 ?h2 ?h3 ?h4 ?_); (case h1 => kpt_turns); (case h2 => (repeat constructor)); (case h3 => omega); (case h4 => (simp; omega)))
  | ((with_reducible refine' st_ixPT ?h1 ?h2 ?h3 ?h4 ?_); (case h1 => kpt_turns); (case h2 => (repeat constructor)); (case h3 => omega); (case h4 => (simp; omega)))
  | with_reducible refine st_tB ?_
  | with_reducible refine st_test ?_
  | with_reducible refine st_and ?_
  | with_reducible refine st_or ?_
  | with_reducible refine st_not ?_
  | with_reducible refine st_andV ?_
  | with_reducible refine st_orV ?_
  | with_reducible refine st_notV ?_
  | with_reducible refine st_chain ?_
  | with_reducible refine st_iT ?_
  | with_reducible refine st_iF ?_
  | with_reducible refine st_iNT ?_
  | with_reducible refine st_iNF ?_
  | with_reducible refine st_iRf ?_
  | with_reducible refine st_iNRf ?_
  | with_reducible refine st_asg ?_
  | ((with_reducible refine' st_parF ?e ?_); (case e => intro x y; (simp only [List.set_cons_zero, List.set_cons_succ]; exact rfl)))
  | with_reducible refine st_par2 ?_
  | with_reducible refine st_fst ?_
  | with_reducible refine st_jsE ?_
  | with_reducible refine st_js ?_
  | with_reducible refine st_fmt ?_
  | with_reducible refine st_joinK ?_
  | with_reducible refine st_strx ?_
  | ((with_reducible refine' st_par3F ?e ?_); (case e => intro x y z; (simp only [List.set_cons_zero, List.set_cons_succ]; exact rfl)))
  | with_reducible refine st_par3 ?_
  | ((with_reducible refine' st_augF ?h ?e ?_); (case h => exact rfl); (case e => intro x; (simp only [List.set_cons_zero, List.set_cons_succ]; exact rfl)))
  | with_reducible refine st_ipI ?_
  | with_reducible refine st_drop ?_
  | with_reducible refine st_next ?_
  | with_reducible refine st_un ?_
  | with_reducible refine st_U ?_
  | ((with_reducible refine' st_gNF ?e ?_); (case e => (simp only [List.set_cons_zero, List.set_cons_succ]; exact rfl)))
  | with_reducible refine st_gN ?_
  | ((with_reducible refine' st_gT ?h1 ?h2 ?_); (case h1 => kpt_turns); (case h2 => exact rfl))
  | with_reducible refine st_gC ?_
  | with_reducible refine st_gE ?_
  | with_reducible refine st_gS ?_
  | ((with_reducible refine' st_setL ?h1 ?h2 ?_); (case h1 => lcg_off); (case h2 => exact rfl))
  | with_reducible refine st_lst ?_
  | with_reducible refine st_tup ?_
  | ((with_reducible refine st_new ?h ?_); (case h => (simp; done)))
  | with_reducible refine st_callN ?_
  | with_reducible refine st_bm ?_
  | with_reducible refine st_bm0 ?_
  | ((with_reducible refine' st_tyL ?h ?_); (case h => kpt_turns))
  | ((with_reducible refine st_eq ?h ?_); (case h => exact rfl))
  | ((with_reducible refine st_ne ?h ?_); (case h => exact rfl))
  | with_reducible refine st_i1 ?_
  | with_reducible refine st_i2 ?_
  | with_reducible refine st_int ?_
  | with_reducible refine st_intb ?_
  | ((with_reducible refine' st_lenQ ?h ?_); (case h => kpt_turns))
  | ((with_reducible refine' st_lenQT ?h ?_); (case h => kpt_turns))
  | with_reducible refine st_yes ?_
  | with_reducible refine st_brk ?_
  | with_reducible refine st_cont ?_
  | with_reducible refine st_retN ?_
  | with_reducible refine st_forI ?_
  | with_reducible refine st_lcI ?_
  | with_reducible refine st_itL ?_
  | with_reducible refine st_itT ?_
  | with_reducible refine st_rng1 ?_
  | with_reducible refine st_rng2 ?_
  | with_reducible refine st_ref ?_
  | with_reducible refine st_sl ?_
  | with_reducible refine st_pN ?_
  | with_reducible refine st_pS ?_
  | with_reducible refine st_pI ?_
  | (refine ⟨rfl, ?_⟩))
local macro_rules | `(tactic| cell_call) => `(tactic| first
  | with_reducible refine st_seq ?_
  | ((with_reducible refine' st_setF ?e ?_); (case e => intro x; (simp only [List.set_cons_zero, List.set_cons_succ]; exact rfl)))
  | with_reducible refine st_c ?_
  | ((with_reducible refine' st_var ?h ?_); (case h => exact rfl))
  | with_reducible refine st_op ?_
  | with_reducible refine st_I0 ?_
  | ((with_reducible refine' st_powL ?c ?e ?_); (case c => exact ⟨by decide, by decide, by decide⟩); (case e => (simp only [Int.reduceToNat, Int.reducePow]; exact rfl)))
  | ((with_reducible refine st_I ?h ?_); (case h => first | with_reducible assumption | (show (0 : Int) < _; omega) | exact ⟨by omega, by omega⟩ | exact .inl ⟨by omega, by omega⟩ | exact .inr ⟨by omega, by omega⟩ | exact ⟨by omega, by omega, by omega⟩))
  | with_reducible refine st_nil ?_
  | with_reducible refine st_cons ?_
  | with_reducible refine st_ret ?_
  | with_reducible refine st_call ?_
  | with_reducible refine st_cb ?_
  | with_reducible refine st_exb ?_
  | ((with_reducible refine' st_ixL ?h1 ?h2 ?_); (case h1 => kpt_turns); (case h2 => first | ((with_reducible apply at0); exact rfl) | ((with_reducible apply at1); exact rfl) | ((with_reducible apply at2); exact rfl) | ((with_reducible apply at3); exact rfl) | with_reducible assumption))
  | ((with_reducible refine' st_ixT ?h1 ?h2 ?_); (case h1 => kpt_turns); (case h2 => first | ((with_reducible apply at0); exact rfl) | ((with_reducible apply at1); exact rfl) | ((with_reducible apply at2); exact rfl) | with_reducible assumption))
  | ((with_reducible refine' st_ixP ?h1 ?h2 ?h3 ?h4 ?_); (case h1 => kpt_turns); (case h2 => (repeat constructor)); (case h3 => omega); (case h4 => (simp; omega)))
  | ((with_reducible refine' st_ixPT ?h1 ?h2 ?h3 ?h4 ?_); (case h1 => kpt_turns); (case h2 => (repeat constructor)); (case h3 => omega); (case h4 => (simp; omega)))
  | with_reducible refine st_tB ?_
  | with_reducible refine st_test ?_
  | with_reducible refine st_and ?_
  | with_reducible refine st_or ?_
  | with_reducible refine st_not ?_
  | with_reducible refine st_andV ?_
  | with_reducible refine st_orV ?_
  | with_reducible refine st_notV ?_
  | with_reducible refine st_chain ?_
  | with_reducible refine st_iT ?_
  | with_reducible refine st_iF ?_
  | with_reducible refine st_iNT ?_
  | with_reducible refine st_iNF ?_
  | with_reducible refine st_iRf ?_
  | with_reducible refine st_iNRf ?_
  | with_reducible refine st_asg ?_
  | ((with_reducible refine' st_parF ?e ?_); (case e => intro x y; (simp only [List.set_cons_zero, List.set_cons_succ]; exact rfl)))
  | with_reducible refine st_par2 ?_
  | with_reducible refine st_fst ?_
  | with_reducible refine st_jsE ?_
  | with_reducible refine st_js ?_
  | with_reducible refine st_fmt ?_
  | with_reducible refine st_joinK ?_
  | with_reducible refine st_strx ?_
  | ((with_reducible refine' st_par3F ?e ?_); (case e => intro x y z; (simp only [List.set_cons_zero, List.set_cons_succ]; exact rfl)))
  | with_reducible refine st_par3 ?_
  | ((with_reducible refine' st_augF ?h ?e ?_); (case h => exact rfl); (case e => intro x; (simp only [List.set_cons_zero, List.set_cons_succ]; exact rfl)))
  | with_reducible refine st_ipI ?_
  | with_reducible refine st_drop ?_
  | with_reducible refine st_next ?_
  | with_reducible refine st_un ?_
  | with_reducible refine st_U ?_
  | ((with_reducible refine' st_gNF ?e ?_); (case e => (simp only [List.set_cons_zero, List.set_cons_succ]; exact rfl)))
  | with_reducible refine st_gN ?_
  | ((with_reducible refine' st_gT ?h1 ?h2 ?_); (case h1 => kpt_turns); (case h2 => exact rfl))
  | with_reducible refine st_gC ?_
  | with_reducible refine st_gE ?_
  | with_reducible refine st_gS ?_
  | ((with_reducible refine' st_setL ?h1 ?h2 ?_); (case h1 => lcg_off); (case h2 => exact rfl))
  | with_reducible refine st_lst ?_
  | with_reducible refine st_tup ?_
  | ((with_reducible refine st_new ?h ?_); (case h => (simp; done)))
  | with_reducible refine st_callN ?_
  | with_reducible refine st_bm ?_
  | with_reducible refine st_bm0 ?_
  | ((with_reducible refine' st_tyL ?h ?_); (case h => kpt_turns))
  | ((with_reducible refine st_eq ?h ?_); (case h => exact rfl))
  | ((with_reducible refine st_ne ?h ?_); (case h => exact rfl))
  | with_reducible refine st_i1 ?_
  | with_reducible refine st_i2 ?_
  | with_reducible refine st_int ?_
  | with_reducible refine st_intb ?_
  | ((with_reducible refine' st_lenQ ?h ?_); (case h => kpt_turns))
  | ((with_reducible refine' st_lenQT ?h ?_); (case h => kpt_turns))
  | with_reducible refine st_yes ?_
  | with_reducible refine st_brk ?_
  | with_reducible refine st_cont ?_
  | with_reducible refine st_retN ?_
  | with_reducible refine st_forI ?_
  | with_reducible refine st_lcI ?_
  | with_reducible refine st_itL ?_
  | with_reducible refine st_itT ?_
  | with_reducible refine st_rng1 ?_
  | with_reducible refine st_rng2 ?_
  | with_reducible refine st_ref ?_
  | with_reducible refine st_sl ?_
  | with_reducible refine st_pN ?_
  | with_reducible refine st_pS ?_
  | with_reducible refine st_pI ?_
  | (refine ⟨rfl, ?_⟩)
  | with_reducible refine st_ifE ?_
  | with_reducible refine st_ifS ?_)
local macro_rules | `(tactic| kpf_close) => `(tactic| first
  | cell_call
  | refine st_iD (fun _ => ?_) (fun _ => ?_)
  | refine st_iND (fun _ => ?_) (fun _ => ?_)
  | refine st_iNB (fun _ => ?_) (fun _ => ?_)
  | refine st_iB (fun _ => ?_) (fun _ => ?_))
local macro_rules | `(tactic| k_places) => `(tactic| first
  | with_reducible refine isi_non_bool ?_
  | with_reducible refine isi_non_int ?_
  | with_reducible refine isi_non_str ?_
  | with_reducible refine isi_non_list ?_
  | with_reducible refine isi_non_tuple ?_
  | with_reducible refine isi_bl_bool ?_
  | with_reducible refine isi_bl_int ?_
  | with_reducible refine isi_bl_str ?_
  | with_reducible refine isi_bl_list ?_
  | with_reducible refine isi_bl_tuple ?_
  | with_reducible refine isi_int_bool ?_
  | with_reducible refine isi_int_int ?_
  | with_reducible refine isi_int_str ?_
  | with_reducible refine isi_int_list ?_
  | with_reducible refine isi_int_tuple ?_
  | with_reducible refine isi_str_bool ?_
  | with_reducible refine isi_str_int ?_
  | with_reducible refine isi_str_str ?_
  | with_reducible refine isi_str_list ?_
  | with_reducible refine isi_str_tuple ?_
  | ((with_reducible refine' isi_list_bool ?h ?_); (case h => kpt_turns))
  | ((with_reducible refine' isi_list_int ?h ?_); (case h => kpt_turns))
  | ((with_reducible refine' isi_list_str ?h ?_); (case h => kpt_turns))
  | ((with_reducible refine' isi_list_list ?h ?_); (case h => kpt_turns))
  | ((with_reducible refine' isi_list_tuple ?h ?_); (case h => kpt_turns))
  | ((with_reducible refine' isi_tuple_bool ?h ?_); (case h => kpt_turns))
  | ((with_reducible refine' isi_tuple_int ?h ?_); (case h => kpt_turns))
  | ((with_reducible refine' isi_tuple_str ?h ?_); (case h => kpt_turns))
  | ((with_reducible refine' isi_tuple_list ?h ?_); (case h => kpt_turns))
  | ((with_reducible refine' isi_tuple_tuple ?h ?_); (case h => kpt_turns)))
local macro_rules | `(tactic| cell_call) => `(tactic| first
  | with_reducible refine st_zip ?_)
local macro_rules | `(tactic| k_ownIn) => `(tactic| first
  | with_reducible refine st_zip ?_)
local macro_rules | `(tactic| cell_call) => `(tactic| first
  | with_reducible refine st_veI ?_
  | with_reducible refine st_ost ?_
  | with_reducible refine st_mko ?_
  | with_reducible refine st_xv ?_
  | with_reducible refine st_lrg ?_
  | with_reducible refine st_callS ?_
  | with_reducible refine st_rg2 ?_
  | with_reducible refine st_rgE ?_)
local macro_rules | `(tactic| k_ownIn) => `(tactic| first
  | with_reducible refine st_veI ?_
  | with_reducible refine st_ost ?_
  | with_reducible refine st_mko ?_
  | with_reducible refine st_xv ?_
  | with_reducible refine st_lrg ?_
  | with_reducible refine st_callS ?_
  | with_reducible refine st_rg2 ?_
  | with_reducible refine st_rgE ?_)
local macro_rules | `(tactic| cell_call) => `(tactic| first
  | with_reducible refine st_inC ?_
  | with_reducible refine st_itS ?_
  | with_reducible refine st_itS1 ?_)
local macro_rules | `(tactic| k_ownIn) => `(tactic| first
  | with_reducible refine st_inC ?_
  | with_reducible refine st_itS ?_
  | with_reducible refine st_itS1 ?_)
local macro_rules | `(tactic| cell_call) => `(tactic| first
  | with_reducible refine st_notInC ?_
  | with_reducible refine st_turnS ?_
  | with_reducible refine st_callT ?_)
local macro_rules | `(tactic| k_ownIn) => `(tactic| first
  | with_reducible refine st_notInC ?_
  | with_reducible refine st_turnS ?_
  | with_reducible refine st_callT ?_)
section
variable {P : Program} {w : World} {K : PySem.W.Frag} {mg : Str → Option Value} {base : Heap}
def sp_law_count (K : PySem.W.Frag) : Sp := fun vs H Q _ => ∃ (S D : Addr) (c : Int), vs = [.ref S] ∧ SrcAt H S D c ∧ c ≤ 100000000000 ∧
  ∀ y H', -1000000000000000000000000000000 ≤ y → y ≤ 1000000000000000000000000000000 → SrcAt H' S D (c + 7) → Frm2 S D H H' → Q (.int y) H'
theorem ok_law_count (T : Txt K mg) : FnOk P w K mg base CX0 2 (He.ga K "_law_count") T.fd_law_count ["source"] (sp_law_count K) := by
  refine T.F_law_count.ok sc_law_count (fun vs H Q E h => ?_) (fun cdv A outer s H vs Q E hr h => ?_)
  · obtain ⟨S, D, c, rfl, _⟩ := h
    rfl
  · obtain ⟨S, D, c, rfl, P0, hc, q⟩ := h
    refine ⟨_, PSs.nox (pss_cons (ps_set (i := 1) sc_law_count.nd rfl (Or.inl rfl) (pe_lst (pa_cons (pe_op op_sub (pe_call (ok_law_draw T) (hr.mono (by decide)) rfl T.g_law_draw T.F_law_draw.kp (b_law_draw T) .nil pass0 (pa_cons (pv 0) (pa_cons pe_int pa_nil))) pe_int) (pa_cons (pe_op op_sub (pe_op op_mul pe_int (pe_call (ok_law_draw T) (hr.mono (by decide)) rfl T.g_law_draw T.F_law_draw.kp (b_law_draw T) .nil pass0 (pa_cons (pv 0) (pa_cons pe_int pa_nil)))) pe_int) (pa_cons (pe_op op_add pe_int (pe_call (ok_law_draw T) (hr.mono (by decide)) rfl T.g_law_draw T.F_law_draw.kp (b_law_draw T) .nil pass0 (pa_cons (pv 0) (pa_cons pe_int pa_nil)))) pa_nil)))))
      (pss_cons (ps_set (i := 1) sc_law_count.nd rfl (Or.inl rfl) (pe_op op_cat (pv 1) (pe_lst (pa_cons (pe_op op_sub (pe_op op_add (pe_op op_mul pe_int (pe_op op_sub (pe_call (ok_law_draw T) (hr.mono (by decide)) rfl T.g_law_draw T.F_law_draw.kp (b_law_draw T) .nil pass0 (pa_cons (pv 0) (pa_cons pe_int pa_nil))) pe_int)) (pe_call (ok_law_draw T) (hr.mono (by decide)) rfl T.g_law_draw T.F_law_draw.kp (b_law_draw T) .nil pass0 (pa_cons (pv 0) (pa_cons pe_int pa_nil)))) pe_int) pa_nil))))
      (pss_cons (ps_set (i := 2) sc_law_count.nd rfl (Or.inl rfl) (pe_op op_sub (pe_op op_sub (pe_op op_pow pe_int pe_int) pe_int) (pe_call (ok_law_draw T) (hr.mono (by decide)) rfl T.g_law_draw T.F_law_draw.kp (b_law_draw T) .nil pass0 (pa_cons (pv 0) (pa_cons pe_int pa_nil)))))
      (pss_one (ps_ret (pe_ix (show IxR _ (rIxL K) from ix_list) (pe_op op_cat (pv 1) (pe_lst (pa_cons (pv 2) (pa_cons (pe_op op_sub pe_int (pv 2)) pa_nil)))) (pe_call (ok_law_draw T) (hr.mono (by decide)) rfl T.g_law_draw T.F_law_draw.kp (b_law_draw T) .nil pass0 (pa_cons (pv 0) (pa_cons pe_int pa_nil))) (fun _ _ => rfl))))))), ?_⟩
    rw [start_law_count]
    repeat cell_call
    refine ⟨S, D, _, c, rfl, P0, by omega, by decide, by decide, fun r1 H1 a1 b1 P1 F1 => ?_⟩
    repeat cell_call
    refine ⟨S, D, _, _, rfl, P1, by omega, by decide, by decide, fun r2 H2 a2 b2 P2 F2 => ?_⟩
    repeat cell_call
    refine ⟨S, D, _, _, rfl, P2, by omega, by decide, by decide, fun r3 H3 a3 b3 P3 F3 => ?_⟩
    repeat cell_call
    intro p np
    repeat cell_call
    have e1 := P3.neS np
    have e2 := P3.neD np
    refine ⟨S, D, _, _, rfl, P3.new np, by omega, by decide, by decide, fun r4 H4 a4 b4 P4 F4 => ?_⟩
    repeat cell_call
    refine ⟨S, D, _, _, rfl, P4, by omega, by decide, by decide, fun r5 H5 a5 b5 P5 F5 => ?_⟩
    repeat cell_call
    intro p2 np2
    refine st_cat (by lcg_off) upd_same (by simp) fun p3 np3 => ?_
    repeat cell_call
    have e3 := P5.neS np2
    have e4 := P5.neD np2
    have P6 := (P5.new (o := .lst [.int (100 * (r4 - 30) + r5 - 4)]) np2)
    have e5 := P6.neS np3
    have e6 := P6.neD np3
    refine ⟨S, D, _, _, rfl, P6.new np3, by omega, by decide, by decide, fun r6 H6 a6 b6 P7 F6 => ?_⟩
    repeat cell_call
    intro p4 np4
    refine st_cat (by lcg_off) upd_same (by simp) fun p5 np5 => ?_
    repeat cell_call
    have e7 := P7.neS np4
    have e8 := P7.neD np4
    have P8 := (P7.new (o := .lst [.int (10 ^ 30 - 400 - r6), .int (0 - (10 ^ 30 - 400 - r6))]) np4)
    have e9 := P8.neS np5
    have ea := P8.neD np5
    refine ⟨S, D, _, _, rfl, P8.new np5, by omega, by decide, by decide, fun r7 H7 a7 b7 P9 F7 => ?_⟩
    repeat cell_call
    intro k hk
    replace hk := List.mem_of_getElem? hk
    simp only [List.mem_cons, List.not_mem_nil, or_false] at hk
    exact q _ _ (by omega) (by omega) (P9.mono (by omega)) (by k_memK)

def sp_law_date (K : PySem.W.Frag) : Sp := fun vs H Q _ => ∃ (S D : Addr) (c : Int), vs = [.ref S] ∧ SrcAt H S D c ∧ c ≤ 10000000000 ∧
  ∀ (p : Addr) (s : Dt) (H' : Hp), H p = none → SrcAt H' S D (c + 20) → Frm2 S D H H' → H' p = some (.tup (dT s)) → okS s →
    -13000000000000000000000000000000 ≤ s.1 → s.1 ≤ 13000000000000000000000000000000 → Q (.ref p) H'
theorem ok_law_date (T : Txt K mg) : FnOk P w K mg base CX0 3 (He.ga K "_law_date") T.fd_law_date ["source"] (sp_law_date K) := by
  refine T.F_law_date.ok sc_law_date (fun vs H Q E h => ?_) (fun cdv A outer s H vs Q E hr h => ?_)
  · obtain ⟨S, D, c, rfl, _⟩ := h
    rfl
  · obtain ⟨S, D, c, rfl, P0, hc, q⟩ := h
    refine ⟨_, PSs.nox (pss_cons (ps_par (i := 1) (j := 2) (by rfl) sc_law_date.nd rfl rfl (by decide) rfl rfl (pa_cons (pe_call (ok_law_count T) (hr.mono (by decide)) rfl T.g_law_count T.F_law_count.kp (b_law_count T) .nil pass0 (pa_cons (pv 0) pa_nil)) (pa_cons (pe_call (ok_law_draw T) (hr.mono (by decide)) rfl T.g_law_draw T.F_law_draw.kp (b_law_draw T) .nil pass0 (pa_cons (pv 0) (pa_cons pe_int pa_nil))) pa_nil)) (by rfl))
      (pss_cons (ps_set (i := 3) sc_law_date.nd rfl (Or.inl rfl) (pe_call (ok_law_length T) (hr.mono (by decide)) rfl T.g_law_length T.F_law_length.kp (b_law_length T) .nil pass0 (pa_cons (pe_op op_add (pe_op op_mul pe_int (pv 1)) (pv 2)) pa_nil)))
      (pss_cons (ps_set (i := 4) sc_law_date.nd rfl (Or.inl rfl) (pe_lst (pa_cons (pe_op op_add pe_int (pe_call (ok_law_draw T) (hr.mono (by decide)) rfl T.g_law_draw T.F_law_draw.kp (b_law_draw T) .nil pass0 (pa_cons (pv 0) (pa_cons (pv 3) pa_nil)))) (pa_cons (pv 3) (pa_cons (pe_callB (call_maxI rfl) (by rfl) T.b_max (by decide +kernel) (pa_cons pe_int (pa_cons (pe_op op_sub (pv 3) (pe_call (ok_law_draw T) (hr.mono (by decide)) rfl T.g_law_draw T.F_law_draw.kp (b_law_draw T) .nil pass0 (pa_cons (pv 0) (pa_cons pe_int pa_nil)))) pa_nil))) (pa_cons (pe_op op_add pe_int (pe_call (ok_law_draw T) (hr.mono (by decide)) rfl T.g_law_draw T.F_law_draw.kp (b_law_draw T) .nil pass0 (pa_cons (pv 0) (pa_cons pe_int pa_nil)))) pa_nil))))))
      (pss_one (ps_ret (pe_tup (pa_cons (pv 1) (pa_cons (pe_op op_add (pv 2) pe_int) (pa_cons (pe_ix (show IxR _ (rIxL K) from ix_list) (pv 4) (pe_call (ok_law_draw T) (hr.mono (by decide)) rfl T.g_law_draw T.F_law_draw.kp (b_law_draw T) .nil pass0 (pa_cons (pv 0) (pa_cons pe_int pa_nil))) (fun _ _ => rfl)) pa_nil))))))))), ?_⟩
    rw [start_law_date]
    repeat cell_call
    refine ⟨S, D, c, rfl, P0, by omega, fun y H1 y0 y1 P1 F1 => ?_⟩
    repeat cell_call
    refine ⟨S, D, _, _, rfl, P1, by omega, by decide, by decide, fun m H2 m0 m1 P2 F2 => ?_⟩
    repeat cell_call
    refine ⟨_, rfl, fun H3 F3 => ?_⟩
    have lb := lenN_bd (12 * y + m)
    repeat cell_call
    refine ⟨S, D, _, _, rfl, P2.same F3, by omega, by omega, by omega, fun r4 H4 a4 b4 P4 F4 => ?_⟩
    repeat cell_call
    refine ⟨S, D, _, _, rfl, P4, by omega, by decide, by decide, fun r5 H5 a5 b5 P5 F5 => ?_⟩
    repeat cell_call
    refine ⟨S, D, _, _, rfl, P5, by omega, by decide, by decide, fun r6 H6 a6 b6 P6 F6 => ?_⟩
    repeat cell_call
    intro p1 n1
    repeat cell_call
    have e1 := P6.neS n1
    have e2 := P6.neD n1
    refine ⟨S, D, _, _, rfl, P6.new n1, by omega, by decide, by decide, fun r7 H7 a7 b7 P7 F7 => ?_⟩
    repeat cell_call
    intro d hd
    replace hd := List.mem_of_getElem? hd
    simp only [List.mem_cons, List.not_mem_nil, or_false] at hd
    repeat cell_call
    intro p n
    have FF : Frm2 S D H H7 := by k_memK
    refine q p (12 * y + m, d) _ (Frm2.free n (P7.neS n) (P7.neD n) FF) ((P7.new n).mono (by omega)) (Frm2.trN n FF) ?_ ?_ (by show _ ≤ 12 * y + m; omega) (by show 12 * y + m ≤ _; omega)
    · rw [upd_same, show 12 * y + m = 12 * y + (m + 1) - 1 by omega, dT_ym (by omega) (by omega)]
    · show 1 ≤ d ∧ d ≤ lenN (12 * y + m)
      omega

end
end Mc
namespace Mc
open PySem PySem.Spec PyProof.Rows L2
open HotX L2H
local macro_rules | `(tactic| lcg_src) => `(tactic| first
  | with_reducible assumption
  | ((with_reducible apply Ne.symm); with_reducible assumption)
  | ((with_reducible apply ne_nf); (with_reducible assumption); lcg_off)
  | ((with_reducible apply Ne.symm); (with_reducible apply ne_nf); (with_reducible assumption); lcg_off))
local macro_rules | `(tactic| lcg_off) => `(tactic| first
  | with_reducible assumption
  | (with_reducible exact upd_same)
  | ((with_reducible apply hp_ne); lcg_src; lcg_off)
  | ((with_reducible apply hp_same); (with_reducible assumption); lcg_off)
  | ((with_reducible apply hp_frm); (with_reducible assumption); lcg_src; lcg_off)
  | ((with_reducible apply hp_frm2); (with_reducible assumption); lcg_src; lcg_src; lcg_off)
  | assumption)
local macro_rules | `(tactic| kpt_turns) => `(tactic| first
  | with_reducible assumption
  | ((with_reducible apply SqL.of); lcg_off)
  | ((with_reducible apply SqT.of); lcg_off)
  | ((with_reducible apply Frm.seq); (with_reducible assumption); lcg_src; kpt_turns)
  | ((with_reducible apply Frm.tup); (with_reducible assumption); lcg_src; kpt_turns)
  | ((with_reducible apply Frm2.seq); (with_reducible assumption); lcg_src; lcg_src; kpt_turns)
  | ((with_reducible apply Frm2.tup); (with_reducible assumption); lcg_src; lcg_src; kpt_turns)
  | ((with_reducible apply L2.Same.seq); (with_reducible assumption); kpt_turns)
  | ((with_reducible apply Same.tup); (with_reducible assumption); kpt_turns)
  | assumption)
local macro_rules | `(tactic| k_memK) => `(tactic| first
  | with_reducible exact Frm.refl _
  | with_reducible assumption
  | ((with_reducible apply Frm.trN); (with_reducible assumption); k_memK)
  | ((with_reducible apply Frm.trU); k_memK)
  | ((with_reducible apply Frm.trM); (with_reducible assumption); k_memK)
  | ((with_reducible apply Frm.tr); (with_reducible assumption); k_memK)
  | ((with_reducible apply Frm.trS); (with_reducible assumption); k_memK)
  | with_reducible exact Frm2.refl _
  | ((with_reducible apply Frm2.trN); (with_reducible assumption); k_memK)
  | ((with_reducible apply Frm2.trU); k_memK)
  | ((with_reducible apply Frm2.trV); k_memK)
  | ((with_reducible apply Frm2.trM); (with_reducible assumption); k_memK)
  | ((with_reducible apply Frm2.tr); (with_reducible assumption); k_memK)
  | ((with_reducible apply Frm2.trS); (with_reducible assumption); k_memK))
local macro_rules | `(tactic| k_allIn) => `(tactic| first
  | with_reducible exact L2.Same.refl _
  | with_reducible assumption
  | ((with_reducible apply same_trN); (with_reducible assumption); k_allIn)
  | ((with_reducible apply same_trU); (with_reducible assumption); k_allIn)
  | ((with_reducible apply same_tr); (with_reducible assumption); k_allIn))
local macro_rules | `(tactic| k_ownIn) => `(tactic| first
  | with_reducible refine st_seq ?_
  | ((with_reducible refine' st_setF ?e ?_); (case e => intro x; (simp only [List.set_cons_zero, List.set_cons_succ]; exact rfl)))
  | with_reducible refine st_c ?_
  | ((with_reducible refine' st_var ?h ?_); (case h => exact rfl))
  | with_reducible refine st_op ?_
  | with_reducible refine st_I0 ?_
  | ((with_reducible refine' st_powL ?c ?e ?_); (case c => exact ⟨by decide, by decide, by decide⟩); (case e => (simp only [Int.reduceToNat, Int.reducePow]; exact rfl)))
  | ((with_reducible refine st_I ?h ?_); (case h => first | with_reducible assumption | (show (0 : Int) < _; omega) | exact ⟨by omega, by omega⟩ | exact .inl ⟨by omega, by omega⟩ | exact .inr ⟨by omega, by omega⟩ | exact ⟨by omega, by omega, by omega⟩))
  | with_reducible refine st_nil ?_
  | with_reducible refine st_cons ?_
  | with_reducible refine st_ret ?_
  | with_reducible refine st_call ?_
  | with_reducible refine st_cb ?_
  | with_reducible refine st_exb ?_
  | ((with_reducible refine' st_ixL ?h1 ?h2 ?_); (case h1 => kpt_turns); (case h2 => first | ((with_reducible apply at0); exact rfl) | ((with_reducible apply at1); exact rfl) | ((with_reducible apply at2); exact rfl) | ((with_reducible apply at3); exact rfl) | with_reducible assumption))
  | ((with_reducible refine' st_ixT ?h1 ?h2 ?_); (case h1 => kpt_turns); (case h2 => first | ((with_reducible apply at0); exact rfl) | ((with_reducible apply at1); exact rfl) | ((with_reducible apply at2); exact rfl) | with_reducible assumption))
  | ((with_reducible refine' st_ixP ?h1 ?h2 ?h3 ?h4 ?_); (case h1 => kpt_turns); (case h2 => (repeat constructor)); (case h3 => omega); (case h4 => (simp; omega)))
  | ((with_reducible refine' st_ixPT ?h1 ?h2 ?h3 ?h4 ?_); (case h1 => kpt_turns); (case h2 => (repeat constructor)); (case h3 => omega); (case h4 => (simp; omega)))
  | with_reducible refine st_tB ?_
  | with_reducible refine st_test ?_
  | with_reducible refine st_and ?_
  | with_reducible refine st_or ?_
  | with_reducible refine st_not ?_
  | with_reducible refine st_andV ?_
  | with_reducible refine st_orV ?_
  | with_reducible refine st_notV ?_
  | with_reducible refine st_chain ?_
  | with_reducible refine st_iT ?_
  | with_reducible refine st_iF ?_
  | with_reducible refine st_iNT ?_
  | with_reducible refine st_iNF ?_
  | with_reducible refine st_iRf ?_
  | with_reducible refine st_iNRf ?_
  | with_reducible refine st_asg ?_
  | ((with_reducible refine' st_parF ?e ?_); (case e => intro x y; (simp only [List.set_cons_zero, List.set_cons_succ]; exact rfl)))
  | with_reducible refine st_par2 ?_
  | with_reducible refine st_fst ?_
  | with_reducible refine st_jsE ?_
  | with_reducible refine st_js ?_
  | with_reducible refine st_fmt ?_
  | with_reducible refine st_joinK ?_
  | with_reducible refine st_strx ?_
  | ((with_reducible refine' st_par3F ?e ?_); (case e => intro x y z; (simp only [List.set_cons_zero, List.set_cons_succ]; exact rfl)))
  | with_reducible refine st_par3 ?_
  | ((with_reducible refine' st_augF ?h ?e ?_); (case h => exact rfl); (case e => intro x; (simp only [List.set_cons_zero, List.set_cons_succ]; exact rfl)))
  | with_reducible refine st_ipI ?_
  | with_reducible refine st_drop ?_
  | with_reducible refine st_next ?_
  | with_reducible refine st_un ?_
  | with_reducible refine st_U ?_
  | ((with_reducible refine' st_gNF ?e ?_); (case e => (simp only [List.set_cons_zero, List.set_cons_succ]; exact rfl)))
  | with_reducible refine st_gN ?_
  | ((with_reducible refine' st_gT ?h1 ?h2 ?_); (case h1 => kpt_turns); (case h2 => exact rfl))
  | with_reducible refine st_gC ?_
  | with_reducible refine st_gE ?_
  | with_reducible refine st_gS ?_
  | ((with_reducible refine' st_setL ?h1 ?h2 ?_); (case h1 => lcg_off); (case h2 => exact rfl))
  | with_reducible refine st_lst ?_
  | with_reducible refine st_tup ?_
  | ((with_reducible refine st_new ?h ?_); (case h => (simp; done)))
  | with_reducible refine st_callN ?_
  | with_reducible refine st_bm ?_
  | with_reducible refine st_bm0 ?_
  | ((with_reducible refine' st_tyL ?h ?_); (case h => kpt_turns))
  | ((with_reducible refine st_eq ?h ?_); (case h => exact rfl))
  | ((with_reducible refine st_ne ?h ?_); (case h => exact rfl))
  | with_reducible refine st_i1 ?_
  | with_reducible refine st_i2 ?_
  | with_reducible refine st_int ?_
  | with_reducible refine st_intb ?_
  | ((with_reducible refine' st_lenQ ?h ?_); (case h => kpt_turns))
  | ((with_reducible refine' st_lenQT ?h ?_); (case h => kpt_turns))
  | with_reducible refine st_yes ?_
  | with_reducible refine st_brk ?_
  | with_reducible refine st_cont ?_
  | with_reducible refine st_retN ?_
  | with_reducible refine st_forI ?_
  | with_reducible refine st_lcI ?_
  | with_reducible refine st_itL ?_
  | with_reducible refine st_itT ?_
  | with_reducible refine st_rng1 ?_
  | with_reducible refine st_rng2 ?_
  | with_reducible refine st_ref ?_
  | with_reducible refine st_sl ?_
  | with_reducible refine st_pN ?_
  | with_reducible refine st_pS ?_
  | with_reducible refine st_pI ?_
  | (refine ⟨rfl, ?_⟩))
local macro_rules | `(tactic| cell_call) => `(tactic| first
  | with_reducible refine st_seq ?_
  | ((with_reducible refine' st_setF ?e ?_); (case e => intro x; (simp only [List.set_cons_zero, List.set_cons_succ]; exact rfl)))
  | with_reducible refine st_c ?_
  | ((with_reducible refine' st_var ?h ?_); (case h => exact rfl))
  | with_reducible refine st_op ?_
  | with_reducible refine st_I0 ?_
  | ((with_reducible refine' st_powL ?c ?e ?_); (case c => exact ⟨by decide, by decide, by decide⟩); (case e => (simp only [Int.reduceToNat, Int.reducePow]; exact rfl)))
  | ((with_reducible refine st_I ?h ?_); (case h => first | with_reducible assumption | (show (0 : Int) < _; omega) | exact ⟨by omega, by omega⟩ | exact .inl ⟨by omega, by omega⟩ | exact .inr ⟨by omega, by omega⟩ | exact ⟨by omega, by omega, by omega⟩))
  | with_reducible refine st_nil ?_
  | with_reducible refine st_cons ?_
  | with_reducible refine st_ret ?_
  | with_reducible refine st_call ?_
  | with_reducible refine st_cb ?_
  | with_reducible refine st_exb ?_
  | ((with_reducible refine' st_ixL ?h1 ?h2 ?_); (case h1 => kpt_turns); (case h2 => first | ((with_reducible apply at0); exact rfl) | ((with_reducible apply at1); exact rfl) | ((with_reducible apply at2); exact rfl) | ((with_reducible apply at3); exact rfl) | with_reducible assumption))
  | ((with_reducible refine' st_ixT ?h1 ?h2 ?_); (case h1 => kpt_turns); (case h2 => first | ((with_reducible apply at0); exact rfl) | ((with_reducible apply at1); exact rfl) | ((with_reducible apply at2); exact rfl) | with_reducible assumption))
  | ((with_reducible refine' st_ixP ?h1 ?h2 ?h3 ?h4 ?_); (case h1 => kpt_turns); (case h2 => (repeat constructor)); (case h3 => omega); (case h4 => (simp; omega)))
  | ((with_reducible refine' st_ixPT ?h1 ?h2 ?h3 ?h4 ?_); (case h1 => kpt_turns); (case h2 => (repeat constructor)); (case h3 => omega); (case h4 => (simp; omega)))
  | with_reducible refine st_tB ?_
  | with_reducible refine st_test ?_
  | with_reducible refine st_and ?_
  | with_reducible refine st_or ?_
  | with_reducible refine st_not ?_
  | with_reducible refine st_andV ?_
  | with_reducible refine st_orV ?_
  | with_reducible refine st_notV ?_
  | with_reducible refine st_chain ?_
  | with_reducible refine st_iT ?_
  | with_reducible refine st_iF ?_
  | with_reducible refine st_iNT ?_
  | with_reducible refine st_iNF ?_
  | with_reducible refine st_iRf ?_
  | with_reducible refine st_iNRf ?_
  | with_reducible refine st_asg ?_
  | ((with_reducible refine' st_parF ?e ?_); (case e => intro x y; (simp only [List.set_cons_zero, List.set_cons_succ]; exact rfl)))
  | with_reducible refine st_par2 ?_
  | with_reducible refine st_fst ?_
  | with_reducible refine st_jsE ?_
  | with_reducible refine st_js ?_
  | with_reducible refine st_fmt ?_
  | with_reducible refine st_joinK ?_
  | with_reducible refine st_strx ?_
  | ((with_reducible refine' st_par3F ?e ?_); (case e => intro x y z; (simp only [List.set_cons_zero, List.set_cons_succ]; exact rfl)))
  | with_reducible refine st_par3 ?_
  | ((with_reducible refine' st_augF ?h ?e ?_); (case h => exact rfl); (case e => intro x; (simp only [List.set_cons_zero, List.set_cons_succ]; exact rfl)))
  | with_reducible refine st_ipI ?_
  | with_reducible refine st_drop ?_
  | with_reducible refine st_next ?_
  | with_reducible refine st_un ?_
  | with_reducible refine st_U ?_
  | ((with_reducible refine' st_gNF ?e ?_); (case e => (simp only [List.set_cons_zero, List.set_cons_succ]; exact rfl)))
  | with_reducible refine st_gN ?_
  | ((with_reducible refine' st_gT ?h1 ?h2 ?_); (case h1 => kpt_turns); (case h2 => exact rfl))
  | with_reducible refine st_gC ?_
  | with_reducible refine st_gE ?_
  | with_reducible refine st_gS ?_
  | ((with_reducible refine' st_setL ?h1 ?h2 ?_); (case h1 => lcg_off); (case h2 => exact rfl))
  | with_reducible refine st_lst ?_
  | with_reducible refine st_tup ?_
  | ((with_reducible refine st_new ?h ?_); (case h => (simp; done)))
  | with_reducible refine st_callN ?_
  | with_reducible refine st_bm ?_
  | with_reducible refine st_bm0 ?_
  | ((with_reducible refine' st_tyL ?h ?_); (case h => kpt_turns))
  | ((with_reducible refine st_eq ?h ?_); (case h => exact rfl))
  | ((with_reducible refine st_ne ?h ?_); (case h => exact rfl))
  | with_reducible refine st_i1 ?_
  | with_reducible refine st_i2 ?_
  | with_reducible refine st_int ?_
  | with_reducible refine st_intb ?_
  | ((with_reducible refine' st_lenQ ?h ?_); (case h => kpt_turns))
  | ((with_reducible refine' st_lenQT ?h ?_); (case h => kpt_turns))
  | with_reducible refine st_yes ?_
  | with_reducible refine st_brk ?_
  | with_reducible refine st_cont ?_
  | with_reducible refine st_retN ?_
  | with_reducible refine st_forI ?_
  | with_reducible refine st_lcI ?_
  | with_reducible refine st_itL ?_
  | with_reducible refine st_itT ?_
  | with_reducible refine st_rng1 ?_
  | with_reducible refine st_rng2 ?_
  | with_reducible refine st_ref ?_
  | with_reducible refine st_sl ?_
  | with_reducible refine st_pN ?_
  | with_reducible refine st_pS ?_
  | with_reducible refine st_pI ?_
  | (refine ⟨rfl, ?_⟩)
  | with_reducible refine st_ifE ?_
  | with_reducible refine st_ifS ?_)
local macro_rules | `(tactic| kpf_close) => `(tactic| first
  | cell_call
  | refine st_iD (fun _ => ?_) (fun _ => ?_)
  | refine st_iND (fun _ => ?_) (fun _ => ?_)
  | refine st_iNB (fun _ => ?_) (fun _ => ?_)
  | refine st_iB (fun _ => ?_) (fun _ => ?_))
local macro_rules | `(tactic| k_places) => `(tactic| first
  | with_reducible refine isi_non_bool ?_
  | with_reducible refine isi_non_int ?_
  | with_reducible refine isi_non_str ?_
  | with_reducible refine isi_non_list ?_
  | with_reducible refine isi_non_tuple ?_
  | with_reducible refine isi_bl_bool ?_
  | with_reducible refine isi_bl_int ?_
  | with_reducible refine isi_bl_str ?_
  | with_reducible refine isi_bl_list ?_
  | with_reducible refine isi_bl_tuple ?_
  | with_reducible refine isi_int_bool ?_
  | with_reducible refine isi_int_int ?_
  | with_reducible refine isi_int_str ?_
  | with_reducible refine isi_int_list ?_
  | with_reducible refine isi_int_tuple ?_
  | with_reducible refine isi_str_bool ?_
  | with_reducible refine isi_str_int ?_
  | with_reducible refine isi_str_str ?_
  | with_reducible refine isi_str_list ?_
  | with_reducible refine isi_str_tuple ?_
  | ((with_reducible refine' isi_list_bool ?h ?_); (case h => kpt_turns))
  | ((with_reducible refine' isi_list_int ?h ?_); (case h => kpt_turns))
  | ((with_reducible refine' isi_list_str ?h ?_); (case h => kpt_turns))
  | ((with_reducible refine' isi_list_list ?h ?_); (case h => kpt_turns))
  | ((with_reducible refine' isi_list_tuple ?h ?_); (case h => kpt_turns))
  | ((with_reducible refine' isi_tuple_bool ?h ?_); (case h => kpt_turns))
  | ((with_reducible refine' isi_tuple_int ?h ?_); (case h => kpt_turns))
  | ((with_reducible refine' isi_tuple_str ?h ?_); (case h => kpt_turns))
  | ((with_reducible refine' isi_tuple_list ?h ?_); (case h => kpt_turns))
  | ((with_reducible refine' isi_tuple_tuple ?h ?_); (case h => kpt_turns)))
local macro_rules | `(tactic| cell_call) => `(tactic| first
  | with_reducible refine st_zip ?_)
local macro_rules | `(tactic| k_ownIn) => `(tactic| first
  | with_reducible refine st_zip ?_)
local macro_rules | `(tactic| cell_call) => `(tactic| first
  | with_reducible refine st_veI ?_
  | with_reducible refine st_ost ?_
  | with_reducible refine st_mko ?_
  | with_reducible refine st_xv ?_
  | with_reducible refine st_lrg ?_
  | with_reducible refine st_callS ?_
  | with_reducible refine st_rg2 ?_
  | with_reducible refine st_rgE ?_)
local macro_rules | `(tactic| k_ownIn) => `(tactic| first
  | with_reducible refine st_veI ?_
  | with_reducible refine st_ost ?_
  | with_reducible refine st_mko ?_
  | with_reducible refine st_xv ?_
  | with_reducible refine st_lrg ?_
  | with_reducible refine st_callS ?_
  | with_reducible refine st_rg2 ?_
  | with_reducible refine st_rgE ?_)
local macro_rules | `(tactic| cell_call) => `(tactic| first
  | with_reducible refine st_inC ?_
  | with_reducible refine st_itS ?_
  | with_reducible refine st_itS1 ?_)
local macro_rules | `(tactic| k_ownIn) => `(tactic| first
  | with_reducible refine st_inC ?_
  | with_reducible refine st_itS ?_
  | with_reducible refine st_itS1 ?_)
local macro_rules | `(tactic| cell_call) => `(tactic| first
  | with_reducible refine st_notInC ?_
  | with_reducible refine st_turnS ?_
  | with_reducible refine st_callT ?_)
local macro_rules | `(tactic| k_ownIn) => `(tactic| first
  | with_reducible refine st_notInC ?_
  | with_reducible refine st_turnS ?_
  | with_reducible refine st_callT ?_)
section
variable {P : Program} {w : World} {K : PySem.W.Frag} {mg : Str → Option Value} {base : Heap}
def sgL (m : Bool) : List V := if m = true then [.str "-"] else []
def sp_law_number (K : PySem.W.Frag) : Sp := fun vs H Q _ => ∃ (u : Str) (L : Addr) (m : Bool), vs = [.str u, .ref L] ∧ SqL K H L (sgL m) ∧ TkO 50000 u ∧ ∀ H', Same H H' → Q (numV (lnT m u)) H'
theorem one_eq (c : Nat) (s : String) (n : Nat) (hs : (Str.ofString s).cps.toList = [n]) : decide (V.str ⟨#[c]⟩ = V.str (Str.ofString s)) = decide (c = n) := by
  by_cases h : c = n
  · rw [decide_eq_true h]
    refine decide_eq_true (congrArg V.str (str_eq ?_))
    rw [hs, h]
  · rw [decide_eq_false h]
    refine decide_eq_false fun z => h ?_
    have := congrArg (fun x : Str => x.cps.toList) (V.str.inj z)
    have e : [c] = [n] := this.trans hs
    exact (List.cons.inj e).1
theorem ok_law_number (T : Txt K mg) : FnOk P w K mg base CX0 1 (He.ga K "_law_number") T.fd_law_number ["word", "signs"] (sp_law_number K) := by
  refine T.F_law_number.ok sc_law_number (fun vs H Q E h => ?_) (fun cdv A outer s H vs Q E hr h => ?_)
  · obtain ⟨u, L, m, rfl, _⟩ := h
    rfl
  · obtain ⟨u, L, m, rfl, hL, tu, q⟩ := h
    refine ⟨_, PSs.nox (pss_cons (ps_set (i := 2) sc_law_number.nd rfl (Or.inl rfl) (pe_ifExp (PW.pt (pw_and (pt_cmpR (show OpR _ _ (rIn K false) from op_in_seq) (pe_slice sl_str (pv 0) po_none (po_some pe_int)) (pv 1) (by rfl)) (pw_and1 (pt_cmpR op_ne (pv 0) pe_str (nomark _))))) (pe_slice sl_str (pv 0) (po_some pe_int) po_none) (pv 0)))
      (pss_cons (ps_if (PW.pt (pw_or (pt_not (pt_chain op_le op_le pe_int (pe_callB call_lenTx (by rfl) T.b_len PySem.boot_len (pa_cons (pv 2) pa_nil)) pe_int)) (pw_or1 (pt_cmpR (show OpR _ _ (rNeD K) from (op_neD hr.units)) (pe_lc (own := [("sign", 4)]) (g := gName 4) rfl sc_law_number.nd (pi_str (pv 2)) (blkOk_by (N := N_law_number) (sc := defScope s_law_number) (by decide +kernel)) (fun _ _ _ _ _ => (pg_name (i := 4) sc_law_number.nd rfl (Or.inl rfl))) (fun _ _ _ _ _ => (pts_one (pt_cmpR op_notInC (pv 4) pe_str (by rfl)))) (fun _ _ _ _ _ => (pv 4))) (pe_lst pa_nil) (nomark _))))) (pss_one (ps_ret pe_non)) pss_nil)
      (pss_cons (ps_if (PW.pt (pw_and (pt_cmpR op_eq (pe_ix ix_str (pv 2) pe_int (fun _ _ => rfl)) pe_str (nomark _)) (pw_and1 (pt_cmpR op_ne (pv 0) pe_str (nomark _))))) (pss_one (ps_ret pe_non)) pss_nil)
      (pss_cons (ps_set (i := 3) sc_law_number.nd rfl (Or.inl rfl) (pe_callTy call_intT (by rfl) T.b_int (by decide +kernel) (pa_cons (pv 2) pa_nil)))
      (pss_one (ps_ret (pe_ifExp (pt_cmpR op_eq (pe_ix ix_str (pv 0) pe_int (fun _ _ => rfl)) pe_str (nomark _)) (pe_op op_sub pe_int (pv 3)) (pv 3)))))))), ?_⟩
    rw [start_law_number]
    obtain ⟨so, ul⟩ := tu
    have wl : u.cps.toList.length = u.length := Array.length_toList
    repeat k_ownIn
    refine st_cutK (fun v H' => ∃ D, v = .str D ∧ D.cps.toList = cutM m u.cps.toList ∧ PyData.strOk D = true ∧ H' = H) ?_ ?_
    · rintro v H1 ⟨D, rfl, hD, sD, rfl⟩
      have dl : D.cps.toList.length = D.length := Array.length_toList
      have dl2 : (cutM m u.cps.toList).length ≤ u.cps.toList.length := by
        unfold cutM
        split
        · rw [List.length_drop]
          omega
        · omega
      rw [hD] at dl
      have no : okD (cutM m u.cps.toList) ≠ true → lnT m u = none := fun h => by
        unfold lnT
        rw [if_neg fun z => h z.1]
      repeat cell_call
      refine st_lenTx (by omega) ?_
      repeat cell_call
      refine st_iD (fun h1 => ?_) (fun h1 => ?_)
      · repeat cell_call
        refine st_iND (fun h2 => ?_) (fun h2 => ?_)
        · repeat cell_call
          refine q_of (q _ (Same.refl _)) ?_
          rw [no fun z => by have := (okD_all z).2.2; omega]
          rfl
        · repeat cell_call
          intro C nC
          refine lcS (fun c => !isDig c) (fun c => .str ⟨#[c]⟩) nC (by omega) (fun c H' R RF _ sm hy hn => ?_) (fun H' sm hC => ?_)
          · repeat cell_call
            rw [dig_in]
            refine st_iNB (fun h3 => ?_) (fun h3 => ?_)
            · repeat cell_call
              exact hy (by rw [h3]; rfl) _ (Same.refl _)
            · exact hn (by rw [h3]; rfl) _ (Same.refl _)
          · rw [hD, show ((cutM m u.cps.toList).filter fun c => !isDig c).map (fun c => V.str ⟨#[c]⟩) = (((cutM m u.cps.toList).filter fun c => !isDig c).map fun c => (⟨#[c]⟩ : Str)).map V.str by rw [List.map_map]; rfl] at hC
            repeat cell_call
            intro B nB
            refine st_neNilS (SqL.of (hp_ne (ne_of_none hC nB) hC)) (SqL.of upd_same) (fun s hs => ?_) ?_
            · obtain ⟨c, hc, rfl⟩ := List.mem_map.mp hs
              exact so_all.mp sD c (by rw [hD]; exact (List.mem_filter.mp hc).1)
            have sm2 : Same H1 (upd H' B (.lst [])) := same_trN nB sm
            generalize upd H' B (.lst []) = H2 at *
            clear nB hC sm
            have ea : (((cutM m u.cps.toList).filter fun c => !isDig c).map fun c => (⟨#[c]⟩ : Str)).isEmpty = okD (cutM m u.cps.toList) := by
              rw [okD, decide_eq_true (p := 1 ≤ (cutM m u.cps.toList).length) (by omega), decide_eq_true (p := (cutM m u.cps.toList).length ≤ 60) (by omega), Bool.true_and, Bool.true_and]
              generalize cutM m u.cps.toList = l
              induction l with
              | nil => rfl
              | cons c r ih =>
                rw [List.filter_cons, List.all_cons]
                cases isDig c with
                | true => exact ih
                | false => rfl
            rw [ea]
            repeat cell_call
            refine st_iNB (fun h3 => ?_) (fun h3 => ?_)
            · repeat cell_call
              refine q_of (q _ sm2) ?_
              rw [no fun z => by rw [h3] at z; cases z]
              rfl
            · obtain ⟨d1, d2, d3⟩ := okD_all h3
              obtain ⟨c0, r0, hc0⟩ : ∃ c0 r0, cutM m u.cps.toList = c0 :: r0 := by
                match cutM m u.cps.toList, d2 with
                | c :: r, _ => exact ⟨c, r, rfl⟩
              have hu : ∃ c1 r1, u.cps.toList = c1 :: r1 := by
                match hl : u.cps.toList with
                | [] =>
                  rw [hl] at hc0
                  unfold cutM at hc0
                  split at hc0 <;> cases hc0
                | c :: r => exact ⟨c, r, rfl⟩
              obtain ⟨c1, r1, hc1⟩ := hu
              have k0 : ∀ (b : Bool), (b = true ↔ (c0 = 48 ∧ u.cps.toList ≠ [48])) → b = true → lnT m u = none := fun b hb z => by
                obtain ⟨z1, z2⟩ := hb.mp z
                unfold lnT
                rw [if_neg]
                intro y
                exact z2 (y.2 (by rw [hc0, z1]; rfl))
              have tail : ∀ HZ, Same H1 HZ → ¬ (c0 = 48 ∧ u.cps.toList ≠ [48]) → lnT m u = some (if c1 = 45 then 0 - ((NumText.digitsVal (cutM m u.cps.toList) : Nat) : Int) else ((NumText.digitsVal (cutM m u.cps.toList) : Nat) : Int)) := fun HZ _ hb => by
                unfold lnT
                rw [if_pos ⟨h3, fun z => by
                  rw [hc0] at z
                  have e : c0 = 48 := Option.some.inj z
                  exact Classical.byContradiction fun y => hb ⟨e, y⟩⟩]
                congr 1
                rw [hc1]
                by_cases e : c1 = 45
                · rw [if_pos e, if_pos (by rw [e]; rfl)]
                · rw [if_neg e, if_neg (show ¬ (c1 :: r1).head? = some 45 from fun z => e (Option.some.inj z))]
              have fin : ¬ (c0 = 48 ∧ u.cps.toList ≠ [48]) → numV (lnT m u) = .int (if c1 = 45 then 0 - ((NumText.digitsVal (cutM m u.cps.toList) : Nat) : Int) else ((NumText.digitsVal (cutM m u.cps.toList) : Nat) : Int)) := fun hb => by
                rw [tail _ sm2 hb]
                rfl
              have vb := ok_lt h3
              have it : PySem.intText? D = some ((NumText.digitsVal (cutM m u.cps.toList) : Nat) : Int) := by
                rw [← hD]
                exact intText_digits (by rw [hD]; exact d1) (by rw [hD]; exact d2) (by omega)
              repeat cell_call
              refine st_ixS (z := D) (i := 0) (c := c0) (by omega) (by rw [hD, hc0]; exact atI_nat (j := 0) rfl) ?_
              repeat cell_call
              rw [one_eq c0 "0" 48 (by decide +kernel)]
              have last : ∀ HZ, Same H1 HZ → ¬ (c0 = 48 ∧ u.cps.toList ≠ [48]) → rIntT [.str D] HZ fun v H' => Q (.int (if c1 = 45 then 0 - ((NumText.digitsVal (cutM m u.cps.toList) : Nat) : Int) else ((NumText.digitsVal (cutM m u.cps.toList) : Nat) : Int))) H' := fun HZ sz hb => by
                refine ⟨D, _, rfl, it, by omega, ?_⟩
                rw [← fin hb]
                exact q _ sz
              have goal2 : ¬ (c0 = 48 ∧ u.cps.toList ≠ [48]) → ∀ HZ, Same H1 HZ → Q (.int (if c1 = 45 then 0 - ((NumText.digitsVal (cutM m u.cps.toList) : Nat) : Int) else ((NumText.digitsVal (cutM m u.cps.toList) : Nat) : Int))) HZ := fun hb HZ sz => by
                rw [← fin hb]
                exact q _ sz
              have zne : (V.str u = V.str ("0" : Str)) ↔ u.cps.toList = [48] := ⟨fun z => zero_iff.mp (V.str.inj z), fun z => congrArg V.str (zero_iff.mpr z)⟩
              clear last tail k0
              generalize ((NumText.digitsVal (cutM m u.cps.toList) : Nat) : Int) = N at *
              refine st_iD (fun hz => ?_) (fun hz => ?_)
              · repeat cell_call
                refine st_iND (fun hy => ?_) (fun hy => ?_)
                · repeat cell_call
                  refine q_of (q _ sm2) ?_
                  unfold lnT
                  rw [if_neg]
                  · rfl
                  · intro y
                    exact hy (zne.mpr (y.2 (by rw [hc0, hz]; rfl)))
                · have g := goal2 (fun z => z.2 (zne.mp hy))
                  repeat cell_call
                  refine ⟨D, _, rfl, it, by omega, ?_⟩
                  repeat cell_call
                  refine st_ixS (z := u) (i := 0) (c := c1) (by omega) (by rw [hc1]; exact atI_nat (j := 0) rfl) ?_
                  repeat cell_call
                  rw [one_eq c1 "-" 45 (by decide +kernel)]
                  refine st_iD (fun hx => ?_) (fun hx => ?_)
                  · repeat cell_call
                    rw [if_pos hx] at g
                    exact g _ sm2
                  · repeat cell_call
                    rw [if_neg hx] at g
                    exact g _ sm2
              · have g := goal2 (fun z => hz z.1)
                repeat cell_call
                refine ⟨D, _, rfl, it, by omega, ?_⟩
                repeat cell_call
                refine st_ixS (z := u) (i := 0) (c := c1) (by omega) (by rw [hc1]; exact atI_nat (j := 0) rfl) ?_
                repeat cell_call
                rw [one_eq c1 "-" 45 (by decide +kernel)]
                refine st_iD (fun hx => ?_) (fun hx => ?_)
                · repeat cell_call
                  rw [if_pos hx] at g
                  exact g _ sm2
                · repeat cell_call
                  rw [if_neg hx] at g
                  exact g _ sm2
      · repeat cell_call
        refine q_of (q _ (Same.refl _)) ?_
        rw [no fun z => by have := (okD_all z).2.1; exact this (List.length_eq_zero_iff.mp (by omega))]
        rfl
    · intro C hk
      repeat cell_call
      refine st_slS (by omega) ?_
      repeat cell_call
      cases m with
      | false =>
        refine st_in (.inl hL) rfl rfl ?_
        repeat cell_call
        refine iteF' (by rfl) ?_
        repeat cell_call
        exact hk _ _ ⟨u, rfl, (if_neg fun z => by cases z.1).symm, so, rfl⟩
      | true =>
        refine st_in (.inl hL) rfl rfl ?_
        rw [if_neg Bool.false_ne_true, show sgL true = [.str "-"] from rfl, in_mi]
        repeat cell_call
        refine st_iD (fun h1 => ?_) (fun h1 => ?_)
        · repeat cell_call
          refine st_iND (fun h2 => ?_) (fun h2 => ?_)
          · repeat cell_call
            refine st_slS (by omega) ?_
            refine hk _ _ ⟨_, rfl, ?_, so_of (cut_of u _ _).2 so, rfl⟩
            rw [cps_tail]
            exact (if_pos ⟨rfl, h1⟩).symm
          · exfalso
            rw [V.str.inj h2] at h1
            cases h1
        · repeat cell_call
          exact hk _ _ ⟨u, rfl, (if_neg fun z => h1 z.2).symm, so, rfl⟩

theorem st_c2 {b c : Bool} {R : Bool → Prop} (e : b = c) (h : R c) : R b := by rw [e]; exact h
def sp_law_date_in (K : PySem.W.Frag) : Sp := fun vs H Q _ => ∃ u : Str, vs = [.str u] ∧ TkO 50000 u ∧
  (∀ y m d, rdP u = some (y, m, d) → ∀ p H', H p = none → Same H H' → H' p = some (.tup [.int y, .int m, .int d]) → Q (.ref p) H') ∧
  (rdP u = none → ∀ H', Same H H' → Q .non H')
theorem rdL_len {u : Str} (h : (Txt.split u "/").length ≠ 3) : rdL u = none := by
  rw [rd_eq]
  exact rdP_len h
theorem rdL_no {u a b c : Str} (e : Txt.split u "/" = [a, b, c]) (h : (lnT true a).isNone = true ∨ (lnT false b).isNone = true ∨ (lnT false c).isNone = true) : rdL u = none := by
  cases z : rdL u with
  | none => rfl
  | some x =>
    obtain ⟨y, m, d⟩ := x
    unfold rdL at z
    rw [e] at z
    cases h1 : lnT true a <;> cases h2 : lnT false b <;> cases h3 : lnT false c <;> simp_all
theorem rdL_yes {u a b c : Str} {y m d : Int} (e : Txt.split u "/" = [a, b, c]) (h1 : lnT true a = some y) (h2 : lnT false b = some m) (h3 : lnT false c = some d) : rdL u = if dateOk y m d = true then some (y, m, d) else none := by
  unfold rdL
  rw [e]
  simp only [h1, h2, h3]
theorem ok_law_date_in (T : Txt K mg) : FnOk P w K mg base CX0 3 (He.ga K "_law_date_in") T.fd_law_date_in ["line"] (sp_law_date_in K) := by
  refine T.F_law_date_in.ok sc_law_date_in (fun vs H Q E h => ?_) (fun cdv A outer s H vs Q E hr h => ?_)
  · obtain ⟨u, rfl, _⟩ := h
    rfl
  · obtain ⟨u, rfl, tu, q, qn⟩ := h
    refine ⟨_, PSs.nox (pss_cons (ps_set (i := 1) sc_law_date_in.nd rfl (Or.inl rfl) (pe_split (pv 0) pe_str))
      (pss_cons (ps_if (pt_cmpR op_neI (pe_callB (show CallR _ _ (rLenQ K) from call_lenQ) (by rfl) T.b_len PySem.boot_len (pa_cons (pv 1) pa_nil)) pe_int (nomark _)) (pss_one (ps_ret pe_non)) pss_nil)
      (pss_cons (ps_set (i := 2) sc_law_date_in.nd rfl (Or.inl rfl) (pe_tup (pa_cons (pe_call (ok_law_number T) (hr.mono (by decide)) rfl T.g_law_number T.F_law_number.kp (b_law_number T) .nil pass0 (pa_cons (pe_ix (show IxR _ (rIxL K) from ix_list) (pv 1) pe_int (fun _ _ => rfl)) (pa_cons (pe_lst (pa_cons pe_str pa_nil)) pa_nil))) (pa_cons (pe_call (ok_law_number T) (hr.mono (by decide)) rfl T.g_law_number T.F_law_number.kp (b_law_number T) .nil pass0 (pa_cons (pe_ix (show IxR _ (rIxL K) from ix_list) (pv 1) pe_int (fun _ _ => rfl)) (pa_cons (pe_lst pa_nil) pa_nil))) (pa_cons (pe_call (ok_law_number T) (hr.mono (by decide)) rfl T.g_law_number T.F_law_number.kp (b_law_number T) .nil pass0 (pa_cons (pe_ix (show IxR _ (rIxL K) from ix_list) (pv 1) pe_int (fun _ _ => rfl)) (pa_cons (pe_lst pa_nil) pa_nil))) pa_nil)))))
      (pss_cons (ps_if (PW.pt (pw_or (pt_cmpR (show OpR _ _ (rIn K false) from op_in_seq) pe_non (pv 2) (by rfl)) (pw_or1 (pt_not (pt_chain op_le op_le pe_int (pe_ix (show IxR _ (rIxT K) from ix_tup) (pv 2) pe_int (fun _ _ => rfl)) pe_int))))) (pss_one (ps_ret pe_non)) pss_nil)
      (pss_one (ps_ret (pe_ifExp (pt_chain op_le op_le pe_int (pe_ix (show IxR _ (rIxT K) from ix_tup) (pv 2) pe_int (fun _ _ => rfl)) (pe_call (ok_law_length T) (hr.mono (by decide)) rfl T.g_law_length T.F_law_length.kp (b_law_length T) .nil pass0 (pa_cons (pe_op op_sub (pe_op op_add (pe_op op_mul pe_int (pe_ix (show IxR _ (rIxT K) from ix_tup) (pv 2) pe_int (fun _ _ => rfl))) (pe_ix (show IxR _ (rIxT K) from ix_tup) (pv 2) pe_int (fun _ _ => rfl))) pe_int) pa_nil))) (pv 2) pe_non))))))), ?_⟩
    rw [start_law_date_in]
    obtain ⟨sb, sl⟩ := split_bd u
    have ul := tu.le
    repeat cell_call
    refine st_m1 ?_
    repeat cell_call
    refine st_split (by decide) (by omega) fun p1 n1 => ?_
    have hn := rdL_len (u := u)
    have hno := fun a b c e => rdL_no (u := u) (a := a) (b := b) (c := c) e
    have hys := fun a b c y m d e => rdL_yes (u := u) (a := a) (b := b) (c := c) (y := y) (m := m) (d := d) e
    rw [rd_eq] at hn
    simp only [rd_eq] at hno hys
    have tw : ∀ p ∈ Txt.split u "/", TkO 50000 p := fun p hp => ⟨so_of (sb p hp).2 tu.so, Nat.le_trans (sb p hp).1 tu.le⟩
    generalize Txt.split u "/" = ws at *
    have smX : Same H (upd H p1 (.lst (ws.map V.str))) := Same.new n1
    have h1 : (upd H p1 (.lst (ws.map V.str))) p1 = some (.lst (ws.map V.str)) := upd_same
    generalize upd H p1 (.lst (ws.map V.str)) = HX at *
    clear n1 sb sl
    repeat cell_call
    rw [List.length_map]
    refine st_iND (fun hl => ?_) (fun hl => ?_)
    · repeat cell_call
      exact qn (hn (by omega)) _ smX
    · obtain ⟨a, b, c, rfl⟩ : ∃ a b c, ws = [a, b, c] := by
        match ws, hl with
        | [a, b, c], _ => exact ⟨a, b, c, rfl⟩
        | [], h1 => cases h1
        | [a], h1 => cases h1
        | [a, b], h1 => cases h1
        | a :: b :: c :: d :: r, h1 =>
          simp only [List.length_cons] at h1
          omega
      replace hno := hno a b c rfl
      replace hys := fun y m d => hys a b c y m d rfl
      have ta := tw a (by simp)
      have tb := tw b (by simp)
      have tc := tw c (by simp)
      replace h1 : HX p1 = some (.lst [.str a, .str b, .str c]) := h1
      clear hn tw hl
      repeat cell_call
      intro L1 n1
      have h2 := hp_ne (o' := .lst [.str "-"]) (ne_of_none h1 n1) h1
      have g1 : (upd HX L1 (.lst [.str "-"])) L1 = some (.lst [.str "-"]) := upd_same
      have sm1 : Same H (upd HX L1 (.lst [.str "-"])) := same_trN n1 smX
      generalize upd HX L1 (.lst [.str "-"]) = H1 at *
      clear n1 smX h1
      repeat cell_call
      refine ⟨a, L1, true, rfl, SqL.of g1, ta, fun H2 F2 => ?_⟩
      have h3 := F2 _ _ h2
      have sm2 := same_tr F2 sm1
      clear F2 sm1 h2 g1
      repeat cell_call
      intro L2 n2
      have h4 := hp_ne (o' := .lst []) (ne_of_none h3 n2) h3
      have g2 : (upd H2 L2 (.lst [])) L2 = some (.lst []) := upd_same
      have sm3 : Same H (upd H2 L2 (.lst [])) := same_trN n2 sm2
      generalize upd H2 L2 (.lst []) = H3 at *
      clear n2 sm2 h3
      repeat cell_call
      refine ⟨b, L2, false, rfl, SqL.of g2, tb, fun H4 F4 => ?_⟩
      have h5 := F4 _ _ h4
      have sm4 := same_tr F4 sm3
      clear F4 sm3 h4 g2
      repeat cell_call
      intro L3 n3
      have g3 : (upd H4 L3 (.lst [])) L3 = some (.lst []) := upd_same
      have sm5 : Same H (upd H4 L3 (.lst [])) := same_trN n3 sm4
      generalize upd H4 L3 (.lst []) = H5 at *
      clear n3 sm4 h5
      repeat cell_call
      refine ⟨c, L3, false, rfl, SqL.of g3, tc, fun H6 F6 => ?_⟩
      have sm6 := same_tr F6 sm5
      clear F6 sm5 g3
      repeat cell_call
      intro T nT
      have nT0 := same_free nT sm6
      have sm7 : Same H (upd H6 T (.tup [numV (lnT true a), numV (lnT false b), numV (lnT false c)])) := same_trN nT sm6
      have gT : (upd H6 T (.tup [numV (lnT true a), numV (lnT false b), numV (lnT false c)])) T = some (.tup [numV (lnT true a), numV (lnT false b), numV (lnT false c)]) := upd_same
      generalize upd H6 T (.tup [numV (lnT true a), numV (lnT false b), numV (lnT false c)]) = H7 at *
      clear nT sm6
      have fl := flat_num [lnT true a, lnT false b, lnT false c]
      have nn : inV .non [numV (lnT true a), numV (lnT false b), numV (lnT false c)] = _ := in_num [lnT true a, lnT false b, lnT false c]
      repeat cell_call
      refine st_in (.inr (SqT.of gT)) rfl fl ?_
      rw [if_neg Bool.false_ne_true]
      rw [nn]
      simp only [List.any_cons, List.any_nil, Bool.or_false]
      cases e1 : lnT true a with
      | none =>
        repeat cell_call
        refine iteT' (by rfl) ?_
        repeat cell_call
        exact qn (hno (.inl (by rw [e1]; rfl))) _ sm7
      | some y =>
      cases e2 : lnT false b with
      | none =>
        repeat cell_call
        refine iteT' (by rfl) ?_
        repeat cell_call
        exact qn (hno (.inr (.inl (by rw [e2]; rfl)))) _ sm7
      | some m =>
      cases e3 : lnT false c with
      | none =>
        repeat cell_call
        refine iteT' (by rfl) ?_
        repeat cell_call
        exact qn (hno (.inr (.inr (by rw [e3]; rfl)))) _ sm7
      | some d =>
      have b1 := lnT_bd e1
      have b2 := lnT_bd e2
      have b3 := lnT_bd e3
      have hy := hys y m d e1 e2 e3
      simp only [e1, e2, e3] at gT
      replace gT : H7 T = some (.tup [.int y, .int m, .int d]) := gT
      clear hno hys nn fl e1 e2 e3 tu ta tb tc
      have no : dateOk y m d = false → rdP u = none := fun z => by
        rw [hy, z]
        rfl
      have yes : dateOk y m d = true → rdP u = some (y, m, d) := fun z => by
        rw [hy, z]
        rfl
      clear hy
      repeat cell_call
      refine iteF' (by rfl) ?_
      repeat cell_call
      refine st_iD (fun h1 => ?_) (fun h1 => ?_)
      · repeat cell_call
        refine st_iND (fun h2 => ?_) (fun h2 => ?_)
        · repeat cell_call
          exact qn (no (by unfold dateOk; exact decide_eq_false fun z => h2 z.1.2)) _ sm7
        · repeat cell_call
          refine st_iD (fun h3 => ?_) (fun h3 => ?_)
          · repeat cell_call
            refine ⟨_, rfl, fun H8 F8 => ?_⟩
            have em : lenN (12 * y + m - 1) = mlen y m := by
              rw [show 12 * y + m - 1 = 12 * y + (m - 1) by omega, lenN_ym (by omega) (by omega), show m - 1 + 1 = m by omega]
            rw [em]
            repeat cell_call
            refine st_iD (fun h4 => ?_) (fun h4 => ?_)
            · repeat cell_call
              exact q y m d (yes (by unfold dateOk; exact decide_eq_true ⟨⟨h1, h2⟩, h3, h4⟩)) T _ nT0 (same_tr F8 sm7) (F8 _ _ gT)
            · repeat cell_call
              exact qn (no (by unfold dateOk; exact decide_eq_false fun z => h4 z.2.2)) _ (same_tr F8 sm7)
          · repeat cell_call
            exact qn (no (by unfold dateOk; exact decide_eq_false fun z => h3 z.2.1)) _ sm7
      · repeat cell_call
        exact qn (no (by unfold dateOk; exact decide_eq_false fun z => h1 z.1.1)) _ sm7

end
end Mc
namespace Mc
open PySem PySem.Spec PyProof.Rows L2
open HotX L2H
local macro_rules | `(tactic| lcg_src) => `(tactic| first
  | with_reducible assumption
  | ((with_reducible apply Ne.symm); with_reducible assumption)
  | ((with_reducible apply ne_nf); (with_reducible assumption); lcg_off)
  | ((with_reducible apply Ne.symm); (with_reducible apply ne_nf); (with_reducible assumption); lcg_off))
local macro_rules | `(tactic| lcg_off) => `(tactic| first
  | with_reducible assumption
  | (with_reducible exact upd_same)
  | ((with_reducible apply hp_ne); lcg_src; lcg_off)
  | ((with_reducible apply hp_same); (with_reducible assumption); lcg_off)
  | ((with_reducible apply hp_frm); (with_reducible assumption); lcg_src; lcg_off)
  | ((with_reducible apply hp_frm2); (with_reducible assumption); lcg_src; lcg_src; lcg_off)
  | assumption)
local macro_rules | `(tactic| kpt_turns) => `(tactic| first
  | with_reducible assumption
  | ((with_reducible apply SqL.of); lcg_off)
  | ((with_reducible apply SqT.of); lcg_off)
  | ((with_reducible apply Frm.seq); (with_reducible assumption); lcg_src; kpt_turns)
  | ((with_reducible apply Frm.tup); (with_reducible assumption); lcg_src; kpt_turns)
  | ((with_reducible apply Frm2.seq); (with_reducible assumption); lcg_src; lcg_src; kpt_turns)
  | ((with_reducible apply Frm2.tup); (with_reducible assumption); lcg_src; lcg_src; kpt_turns)
  | ((with_reducible apply L2.Same.seq); (with_reducible assumption); kpt_turns)
  | ((with_reducible apply Same.tup); (with_reducible assumption); kpt_turns)
  | assumption)
local macro_rules | `(tactic| k_memK) => `(tactic| first
  | with_reducible exact Frm.refl _
  | with_reducible assumption
  | ((with_reducible apply Frm.trN); (with_reducible assumption); k_memK)
  | ((with_reducible apply Frm.trU); k_memK)
  | ((with_reducible apply Frm.trM); (with_reducible assumption); k_memK)
  | ((with_reducible apply Frm.tr); (with_reducible assumption); k_memK)
  | ((with_reducible apply Frm.trS); (with_reducible assumption); k_memK)
  | with_reducible exact Frm2.refl _
  | ((with_reducible apply Frm2.trN); (with_reducible assumption); k_memK)
  | ((with_reducible apply Frm2.trU); k_memK)
  | ((with_reducible apply Frm2.trV); k_memK)
  | ((with_reducible apply Frm2.trM); (with_reducible assumption); k_memK)
  | ((with_reducible apply Frm2.tr); (with_reducible assumption); k_memK)
  | ((with_reducible apply Frm2.trS); (with_reducible assumption); k_memK))
local macro_rules | `(tactic| k_allIn) => `(tactic| first
  | with_reducible exact L2.Same.refl _
  | with_reducible assumption
  | ((with_reducible apply same_trN); (with_reducible assumption); k_allIn)
  | ((with_reducible apply same_trU); (with_reducible assumption); k_allIn)
  | ((with_reducible apply same_tr); (with_reducible assumption); k_allIn))
local macro_rules | `(tactic| k_ownIn) => `(tactic| first
  | with_reducible refine st_seq ?_
  | ((with_reducible refine' st_setF ?e ?_); (case e => intro x; (simp only [List.set_cons_zero, List.set_cons_succ]; exact rfl)))
  | with_reducible refine st_c ?_
  | ((with_reducible refine' st_var ?h ?_); (case h => exact rfl))
  | with_reducible refine st_op ?_
  | with_reducible refine st_I0 ?_
  | ((with_reducible refine' st_powL ?c ?e ?_); (case c => exact ⟨by decide, by decide, by decide⟩); (case e => (simp only [Int.reduceToNat, Int.reducePow]; exact rfl)))
  | ((with_reducible refine st_I ?h ?_); (case h => first | with_reducible assumption | (show (0 : Int) < _; omega) | exact ⟨by omega, by omega⟩ | exact .inl ⟨by omega, by omega⟩ | exact .inr ⟨by omega, by omega⟩ | exact ⟨by omega, by omega, by omega⟩))
  | with_reducible refine st_nil ?_
  | with_reducible refine st_cons ?_
  | with_reducible refine st_ret ?_
  | with_reducible refine st_call ?_
  | with_reducible refine st_cb ?_
  | with_reducible refine st_exb ?_
  | ((with_reducible refine' st_ixL ?h1 ?h2 ?_); (case h1 => kpt_turns); (case h2 => first | ((with_reducible apply at0); exact rfl) | ((with_reducible apply at1); exact rfl) | ((with_reducible apply at2); exact rfl) | ((with_reducible apply at3); exact rfl) | with_reducible assumption))
  | ((with_reducible refine' st_ixT ?h1 ?h2 ?_); (case h1 => kpt_turns); (case h2 => first | ((with_reducible apply at0); exact rfl) | ((with_reducible apply at1); exact rfl) | ((with_reducible apply at2); exact rfl) | with_reducible assumption))
  | ((with_reducible refine' st_ixP ?h1 ?h2 ?h3 ?h4 ?_); (case h1 => kpt_turns); (case h2 => (repeat constructor)); (case h3 => omega); (case h4 => (simp; omega)))
  | ((with_reducible refine' st_ixPT ?h1 ?h2 ?h3 ?h4 ?_); (case h1 => kpt_turns); (case h2 => (repeat constructor)); (case h3 => omega); (case h4 => (simp; omega)))
  | with_reducible refine st_tB ?_
  | with_reducible refine st_test ?_
  | with_reducible refine st_and ?_
  | with_reducible refine st_or ?_
  | with_reducible refine st_not ?_
  | with_reducible refine st_andV ?_
  | with_reducible refine st_orV ?_
  | with_reducible refine st_notV ?_
  | with_reducible refine st_chain ?_
  | with_reducible refine st_iT ?_
  | with_reducible refine st_iF ?_
  | with_reducible refine st_iNT ?_
  | with_reducible refine st_iNF ?_
  | with_reducible refine st_iRf ?_
  | with_reducible refine st_iNRf ?_
  | with_reducible refine st_asg ?_
  | ((with_reducible refine' st_parF ?e ?_); (case e => intro x y; (simp only [List.set_cons_zero, List.set_cons_succ]; exact rfl)))
  | with_reducible refine st_par2 ?_
  | with_reducible refine st_fst ?_
  | with_reducible refine st_jsE ?_
  | with_reducible refine st_js ?_
  | with_reducible refine st_fmt ?_
  | with_reducible refine st_joinK ?_
  | with_reducible refine st_strx ?_
  | ((with_reducible refine' st_par3F ?e ?_); (case e => intro x y z; (simp only [List.set_cons_zero, List.set_cons_succ]; exact rfl)))
  | with_reducible refine st_par3 ?_
  | ((with_reducible refine' st_augF ?h ?e ?_); (case h => exact rfl); (case e => intro x; (simp only [List.set_cons_zero, List.set_cons_succ]; exact rfl)))
  | with_reducible refine st_ipI ?_
  | with_reducible refine st_drop ?_
  | with_reducible refine st_next ?_
  | with_reducible refine st_un ?_
  | with_reducible refine st_U ?_
  | ((with_reducible refine' st_gNF ?e ?_); (case e => (simp only [List.set_cons_zero, List.set_cons_succ]; exact rfl)))
  | with_reducible refine st_gN ?_
  | ((with_reducible refine' st_gT ?h1 ?h2 ?_); (case h1 => kpt_turns); (case h2 => exact rfl))
  | with_reducible refine st_gC ?_
  | with_reducible refine st_gE ?_
  | with_reducible refine st_gS ?_
  | ((with_reducible refine' st_setL ?h1 ?h2 ?_); (case h1 => lcg_off); (case h2 => exact rfl))
  | with_reducible refine st_lst ?_
  | with_reducible refine st_tup ?_
  | ((with_reducible refine st_new ?h ?_); (case h => (simp; done)))
  | with_reducible refine st_callN ?_
  | with_reducible refine st_bm ?_
  | with_reducible refine st_bm0 ?_
  | ((with_reducible refine' st_tyL ?h ?_); (case h => kpt_turns))
  | ((with_reducible refine st_eq ?h ?_); (case h => exact rfl))
  | ((with_reducible refine st_ne ?h ?_); (case h => exact rfl))
  | with_reducible refine st_i1 ?_
  | with_reducible refine st_i2 ?_
  | with_reducible refine st_int ?_
  | with_reducible refine st_intb ?_
  | ((with_reducible refine' st_lenQ ?h ?_); (case h => kpt_turns))
  | ((with_reducible refine' st_lenQT ?h ?_); (case h => kpt_turns))
  | with_reducible refine st_yes ?_
  | with_reducible refine st_brk ?_
  | with_reducible refine st_cont ?_
  | with_reducible refine st_retN ?_
  | with_reducible refine st_forI ?_
  | with_reducible refine st_lcI ?_
  | with_reducible refine st_itL ?_
  | with_reducible refine st_itT ?_
  | with_reducible refine st_rng1 ?_
  | with_reducible refine st_rng2 ?_
  | with_reducible refine st_ref ?_
  | with_reducible refine st_sl ?_
  | with_reducible refine st_pN ?_
  | with_reducible refine st_pS ?_
  | with_reducible refine st_pI ?_
  | (refine ⟨rfl, ?_⟩))
local macro_rules | `(tactic| cell_call) => `(tactic| first
  | with_reducible refine st_seq ?_
  | ((with_reducible refine' st_setF ?e ?_); (case e => intro x; (simp only [List.set_cons_zero, List.set_cons_succ]; exact rfl)))
  | with_reducible refine st_c ?_
  | ((with_reducible refine' st_var ?h ?_); (case h => exact rfl))
  | with_reducible refine st_op ?_
  | with_reducible refine st_I0 ?_
  | ((with_reducible refine' st_powL ?c ?e ?_); (case c => exact ⟨by decide, by decide, by decide⟩); (case e => (simp only [Int.reduceToNat, Int.reducePow]; exact rfl)))
  | ((with_reducible refine st_I ?h ?_); (case h => first | with_reducible assumption | (show (0 : Int) < _; omega) | exact ⟨by omega, by omega⟩ | exact .inl ⟨by omega, by omega⟩ | exact .inr ⟨by omega, by omega⟩ | exact ⟨by omega, by omega, by omega⟩))
  | with_reducible refine st_nil ?_
  | with_reducible refine st_cons ?_
  | with_reducible refine st_ret ?_
  | with_reducible refine st_call ?_
  | with_reducible refine st_cb ?_
  | with_reducible refine st_exb ?_
  | ((with_reducible refine' st_ixL ?h1 ?h2 ?_); (case h1 => kpt_turns); (case h2 => first | ((with_reducible apply at0); exact rfl) | ((with_reducible apply at1); exact rfl) | ((with_reducible apply at2); exact rfl) | ((with_reducible apply at3); exact rfl) | with_reducible assumption))
  | ((with_reducible refine' st_ixT ?h1 ?h2 ?_); (case h1 => kpt_turns); (case h2 => first | ((with_reducible apply at0); exact rfl) | ((with_reducible apply at1); exact rfl) | ((with_reducible apply at2); exact rfl) | with_reducible assumption))
  | ((with_reducible refine' st_ixP ?h1 ?h2 ?h3 ?h4 ?_); (case h1 => kpt_turns); (case h2 => (repeat constructor)); (case h3 => omega); (case h4 => (simp; omega)))
  | ((with_reducible refine' st_ixPT ?h1 ?h2 ?h3 ?h4 ?_); (case h1 => kpt_turns); (case h2 => (repeat constructor)); (case h3 => omega); (case h4 => (simp; omega)))
  | with_reducible refine st_tB ?_
  | with_reducible refine st_test ?_
  | with_reducible refine st_and ?_
  | with_reducible refine st_or ?_
  | with_reducible refine st_not ?_
  | with_reducible refine st_andV ?_
  | with_reducible refine st_orV ?_
  | with_reducible refine st_notV ?_
  | with_reducible refine st_chain ?_
  | with_reducible refine st_iT ?_
  | with_reducible refine st_iF ?_
  | with_reducible refine st_iNT ?_
  | with_reducible refine st_iNF ?_
  | with_reducible refine st_iRf ?_
  | with_reducible refine st_iNRf ?_
  | with_reducible refine st_asg ?_
  | ((with_reducible refine' st_parF ?e ?_); (case e => intro x y; (simp only [List.set_cons_zero, List.set_cons_succ]; exact rfl)))
  | with_reducible refine st_par2 ?_
  | with_reducible refine st_fst ?_
  | with_reducible refine st_jsE ?_
  | with_reducible refine st_js ?_
  | with_reducible refine st_fmt ?_
  | with_reducible refine st_joinK ?_
  | with_reducible refine st_strx ?_
  | ((with_reducible refine' st_par3F ?e ?_); (case e => intro x y z; (simp only [List.set_cons_zero, List.set_cons_succ]; exact rfl)))
  | with_reducible refine st_par3 ?_
  | ((with_reducible refine' st_augF ?h ?e ?_); (case h => exact rfl); (case e => intro x; (simp only [List.set_cons_zero, List.set_cons_succ]; exact rfl)))
  | with_reducible refine st_ipI ?_
  | with_reducible refine st_drop ?_
  | with_reducible refine st_next ?_
  | with_reducible refine st_un ?_
  | with_reducible refine st_U ?_
  | ((with_reducible refine' st_gNF ?e ?_); (case e => (simp only [List.set_cons_zero, List.set_cons_succ]; exact rfl)))
  | with_reducible refine st_gN ?_
  | ((with_reducible refine' st_gT ?h1 ?h2 ?_); (case h1 => kpt_turns); (case h2 => exact rfl))
  | with_reducible refine st_gC ?_
  | with_reducible refine st_gE ?_
  | with_reducible refine st_gS ?_
  | ((with_reducible refine' st_setL ?h1 ?h2 ?_); (case h1 => lcg_off); (case h2 => exact rfl))
  | with_reducible refine st_lst ?_
  | with_reducible refine st_tup ?_
  | ((with_reducible refine st_new ?h ?_); (case h => (simp; done)))
  | with_reducible refine st_callN ?_
  | with_reducible refine st_bm ?_
  | with_reducible refine st_bm0 ?_
  | ((with_reducible refine' st_tyL ?h ?_); (case h => kpt_turns))
  | ((with_reducible refine st_eq ?h ?_); (case h => exact rfl))
  | ((with_reducible refine st_ne ?h ?_); (case h => exact rfl))
  | with_reducible refine st_i1 ?_
  | with_reducible refine st_i2 ?_
  | with_reducible refine st_int ?_
  | with_reducible refine st_intb ?_
  | ((with_reducible refine' st_lenQ ?h ?_); (case h => kpt_turns))
  | ((with_reducible refine' st_lenQT ?h ?_); (case h => kpt_turns))
  | with_reducible refine st_yes ?_
  | with_reducible refine st_brk ?_
  | with_reducible refine st_cont ?_
  | with_reducible refine st_retN ?_
  | with_reducible refine st_forI ?_
  | with_reducible refine st_lcI ?_
  | with_reducible refine st_itL ?_
  | with_reducible refine st_itT ?_
  | with_reducible refine st_rng1 ?_
  | with_reducible refine st_rng2 ?_
  | with_reducible refine st_ref ?_
  | with_reducible refine st_sl ?_
  | with_reducible refine st_pN ?_
  | with_reducible refine st_pS ?_
  | with_reducible refine st_pI ?_
  | (refine ⟨rfl, ?_⟩)
  | with_reducible refine st_ifE ?_
  | with_reducible refine st_ifS ?_)
local macro_rules | `(tactic| kpf_close) => `(tactic| first
  | cell_call
  | refine st_iD (fun _ => ?_) (fun _ => ?_)
  | refine st_iND (fun _ => ?_) (fun _ => ?_)
  | refine st_iNB (fun _ => ?_) (fun _ => ?_)
  | refine st_iB (fun _ => ?_) (fun _ => ?_))
local macro_rules | `(tactic| k_places) => `(tactic| first
  | with_reducible refine isi_non_bool ?_
  | with_reducible refine isi_non_int ?_
  | with_reducible refine isi_non_str ?_
  | with_reducible refine isi_non_list ?_
  | with_reducible refine isi_non_tuple ?_
  | with_reducible refine isi_bl_bool ?_
  | with_reducible refine isi_bl_int ?_
  | with_reducible refine isi_bl_str ?_
  | with_reducible refine isi_bl_list ?_
  | with_reducible refine isi_bl_tuple ?_
  | with_reducible refine isi_int_bool ?_
  | with_reducible refine isi_int_int ?_
  | with_reducible refine isi_int_str ?_
  | with_reducible refine isi_int_list ?_
  | with_reducible refine isi_int_tuple ?_
  | with_reducible refine isi_str_bool ?_
  | with_reducible refine isi_str_int ?_
  | with_reducible refine isi_str_str ?_
  | with_reducible refine isi_str_list ?_
  | with_reducible refine isi_str_tuple ?_
  | ((with_reducible refine' isi_list_bool ?h ?_); (case h => kpt_turns))
  | ((with_reducible refine' isi_list_int ?h ?_); (case h => kpt_turns))
  | ((with_reducible refine' isi_list_str ?h ?_); (case h => kpt_turns))
  | ((with_reducible refine' isi_list_list ?h ?_); (case h => kpt_turns))
  | ((with_reducible refine' isi_list_tuple ?h ?_); (case h => kpt_turns))
  | ((with_reducible refine' isi_tuple_bool ?h ?_); (case h => kpt_turns))
  | ((with_reducible refine' isi_tuple_int ?h ?_); (case h => kpt_turns))
  | ((with_reducible refine' isi_tuple_str ?h ?_); (case h => kpt_turns))
  | ((with_reducible refine' isi_tuple_list ?h ?_); (case h => kpt_turns))
  | ((with_reducible refine' isi_tuple_tuple ?h ?_); (case h => kpt_turns)))
local macro_rules | `(tactic| cell_call) => `(tactic| first
  | with_reducible refine st_zip ?_)
local macro_rules | `(tactic| k_ownIn) => `(tactic| first
  | with_reducible refine st_zip ?_)
local macro_rules | `(tactic| cell_call) => `(tactic| first
  | with_reducible refine st_veI ?_
  | with_reducible refine st_ost ?_
  | with_reducible refine st_mko ?_
  | with_reducible refine st_xv ?_
  | with_reducible refine st_lrg ?_
  | with_reducible refine st_callS ?_
  | with_reducible refine st_rg2 ?_
  | with_reducible refine st_rgE ?_)
local macro_rules | `(tactic| k_ownIn) => `(tactic| first
  | with_reducible refine st_veI ?_
  | with_reducible refine st_ost ?_
  | with_reducible refine st_mko ?_
  | with_reducible refine st_xv ?_
  | with_reducible refine st_lrg ?_
  | with_reducible refine st_callS ?_
  | with_reducible refine st_rg2 ?_
  | with_reducible refine st_rgE ?_)
local macro_rules | `(tactic| cell_call) => `(tactic| first
  | with_reducible refine st_inC ?_
  | with_reducible refine st_itS ?_
  | with_reducible refine st_itS1 ?_)
local macro_rules | `(tactic| k_ownIn) => `(tactic| first
  | with_reducible refine st_inC ?_
  | with_reducible refine st_itS ?_
  | with_reducible refine st_itS1 ?_)
local macro_rules | `(tactic| cell_call) => `(tactic| first
  | with_reducible refine st_notInC ?_
  | with_reducible refine st_turnS ?_
  | with_reducible refine st_callT ?_)
local macro_rules | `(tactic| k_ownIn) => `(tactic| first
  | with_reducible refine st_notInC ?_
  | with_reducible refine st_turnS ?_
  | with_reducible refine st_callT ?_)
section
variable {P : Program} {w : World} {K : PySem.W.Frag} {mg : Str → Option Value} {base : Heap}
def sp_law_told (K : PySem.W.Frag) : Sp := fun vs H Q _ => ∃ (u : Str) (b : Bool), vs = [.str u, .bl b] ∧ u.length ≤ 50000 ∧
  (∀ y m d, rdP u = some (y, m, d) → ∀ p H', H p = none → Same H H' → H' p = some (.tup [.int y, .int m, .int d]) → Q (.ref p) H') ∧
  (rdP u = none → ∀ p H', H p = none → Same H H' → H' p = some (.lst [.str "Unreadable", .str u, .bl true]) → Q (.ref p) H')
theorem ok_law_told (T : Txt K mg) : FnOk P w K mg base CX0 6 (He.ga K "_law_told") T.fd_law_told ["line", "by_name"] (sp_law_told K) := by
  refine T.F_law_told.ok sc_law_told (fun vs H Q E h => ?_) (fun cdv A outer s H vs Q E hr h => ?_)
  · obtain ⟨u, b, rfl, _⟩ := h
    rfl
  · obtain ⟨u, b, rfl, hl, q1, q2⟩ := h
    refine ⟨_, PSs.nox (pss_one (L2N.ps_try_as (i := 2) (ts := fun a cls d => tRet (tCallS (spS_law_error K a cls d) (fun _ => E0) (tCons (tVar 2) tNil))) (Wout := fun _ _ _ _ => False) rfl rfl sc_law_told.nd rfl rfl ⟨rfl, by decide, Or.inl T.g_DateError⟩ takesN0 (fun W pn xe tk _ => (pss_one (ps_ret (pe_ifExp (pt_val (pv 1)) (pe_callT (ok_read_date T) (hr.mono (by decide)) rfl T.g_read_date T.F_read_date.kp (kb_read_date_0_text T) (fun σ => L2N.passAt tk σ) (pk_cons (pv 0) pk_nil)) (pe_callS (ok_read_date T) (hr.mono (by decide)) rfl T.g_read_date T.F_read_date.kp (b_read_date T) (fun σ => L2N.passAt tk σ) (pa_cons (pv 0) pa_nil)))))) (fun a oe cls d pn hzn hf => by have hz := hzn.zc; exact ((pss_one (ps_ret (pe_callE (ok_law_error T) (imp_law_error hz) (roomH_mark (hr.mono (by decide)) _) (hot_suite hzn hf) List.mem_cons_self rfl T.g_law_error T.F_law_error.kp (b_law_error T) (pa_cons (pv 2) pa_nil)))))))), ?_⟩
    rw [start_law_told]
    repeat cell_call
    refine st_iB (fun hb => ?_) (fun hb => ?_)
    · repeat cell_call
      refine ⟨u, rfl, hl, fun y m d ho p H1 np sm hp => q1 y m d ho p H1 np sm hp, fun ho dx H1 nd sm1 => ?_⟩
      refine ⟨true, T.x_Unreadable_DateError, fun _ a na => ?_, fun z => by cases z⟩
      change tRet _ _ _ _
      repeat cell_call
      refine ⟨_, dx, .str u, false, false, false, true, rfl, rfl, rfl, T.e_Unreadable, upd_same, T.k_Unreadable_InvalidDate, T.k_Unreadable_InvalidNumber, T.k_Unreadable_NothingToUndo, T.k_Unreadable_Unreadable, T.k_Unreadable_DateError, T.k_Unreadable_ValueError, fun r H2 nr sm2 hr2 => ?_⟩
      have sm := same_tr sm2 (same_trN (o := .xd [(("value" : Str), .str u)]) nd sm1)
      exact q2 ho r _ (same_free nr (same_trN nd sm1)) sm hr2
    · repeat cell_call
      refine ⟨u, rfl, hl, fun y m d ho p H1 np sm hp => q1 y m d ho p H1 np sm hp, fun ho dx H1 nd sm1 => ?_⟩
      refine ⟨true, T.x_Unreadable_DateError, fun _ a na => ?_, fun z => by cases z⟩
      change tRet _ _ _ _
      repeat cell_call
      refine ⟨_, dx, .str u, false, false, false, true, rfl, rfl, rfl, T.e_Unreadable, upd_same, T.k_Unreadable_InvalidDate, T.k_Unreadable_InvalidNumber, T.k_Unreadable_NothingToUndo, T.k_Unreadable_Unreadable, T.k_Unreadable_DateError, T.k_Unreadable_ValueError, fun r H2 nr sm2 hr2 => ?_⟩
      have sm := same_tr sm2 (same_trN (o := .xd [(("value" : Str), .str u)]) nd sm1)
      exact q2 ho r _ (same_free nr (same_trN nd sm1)) sm hr2

theorem dp_ymd {K : PySem.W.Frag} {H : Hp} {D : Addr} {y m d : Int} (h : H D = some (.tup [.int y, .int m, .int d])) : Dp K H (.ref D) (.tuple ([y, m, d].map PyData.int)) := .tup (SqT.of h) (dp_ints [y, m, d])
theorem dp_unr {K : PySem.W.Frag} {H : Hp} {D : Addr} {u : Str} (h : H D = some (.lst [.str "Unreadable", .str u, .bl true])) : Dp K H (.ref D) (.list [.str "Unreadable", .str u, .bool true]) := .lst (SqL.of h) (.cons (.str _) (.cons (.str _) (.cons (.bl _) .nil)))
def sp_law_right (K : PySem.W.Frag) : Sp := fun vs H Q _ => ∃ u : Str, vs = [.str u] ∧ TkO 50000 u ∧ ∀ H', Same H H' → Q (.bl true) H'
theorem ok_law_right (T : Txt K mg) : FnOk P w K mg base CX0 8 (He.ga K "_law_right") T.fd_law_right ["line"] (sp_law_right K) := by
  refine T.F_law_right.ok sc_law_right (fun vs H Q E h => ?_) (fun cdv A outer s H vs Q E hr h => ?_)
  · obtain ⟨u, rfl, _⟩ := h
    rfl
  · obtain ⟨u, rfl, tu, q⟩ := h
    refine ⟨_, PSs.nox (pss_cons (ps_set (i := 1) sc_law_right.nd rfl (Or.inl rfl) (pe_call (ok_law_date_in T) (hr.mono (by decide)) rfl T.g_law_date_in T.F_law_date_in.kp (b_law_date_in T) .nil pass0 (pa_cons (pv 0) pa_nil)))
      (pss_cons (ps_set (i := 1) sc_law_right.nd rfl (Or.inl rfl) (pe_ifExp (pt_cmpR op_isN (pv 1) pe_non (nomark _)) (pe_lst (pa_cons pe_str (pa_cons (pv 0) (pa_cons pe_bl pa_nil)))) (pv 1)))
      (pss_one (ps_ret (pe_call (ok_law_same T 6) (hr.mono (by decide)) rfl T.g_law_same T.F_law_same.kp (b_law_same T) .nil pass0 (pa_cons (pe_lst (pa_cons (pe_call (ok_law_told T) (hr.mono (by decide)) rfl T.g_law_told T.F_law_told.kp (b_law_told T) .nil pass0 (pa_cons (pv 0) (pa_cons pe_bl pa_nil))) (pa_cons (pe_call (ok_law_told T) (hr.mono (by decide)) rfl T.g_law_told T.F_law_told.kp (b_law_told T) .nil pass0 (pa_cons (pv 0) (pa_cons pe_bl pa_nil))) pa_nil))) (pa_cons (pe_lst (pa_cons (pv 1) (pa_cons (pv 1) pa_nil))) pa_nil))))))), ?_⟩
    rw [start_law_right]
    repeat cell_call
    refine ⟨u, rfl, tu, fun y m d ho p H1 np sm hp => ?_, fun ho H1 sm => ?_⟩
    · clear np
      repeat cell_call
      refine st_iDF (fun z => by cases z) ?_
      repeat cell_call
      refine ⟨u, _, rfl, tu.le, fun y' m' d' ho' a H2 na sm2 ha => ?_, fun ho' => by rw [ho] at ho'; cases ho'⟩
      have e := Option.some.inj (ho.symm.trans ho')
      obtain ⟨rfl, rfl, rfl⟩ : y = y' ∧ m = m' ∧ d = d' := ⟨congrArg Prod.fst e, congrArg (fun z => z.2.1) e, congrArg (fun z => z.2.2) e⟩
      have hp2 := sm2 _ _ hp
      have smB := same_tr sm2 sm
      clear e ho' na sm sm2 hp
      repeat cell_call
      refine ⟨u, _, rfl, tu.le, fun y' m' d' ho' b H3 nb sm3 hb => ?_, fun ho' => by rw [ho] at ho'; cases ho'⟩
      have e := Option.some.inj (ho.symm.trans ho')
      obtain ⟨rfl, rfl, rfl⟩ : y = y' ∧ m = m' ∧ d = d' := ⟨congrArg Prod.fst e, congrArg (fun z => z.2.1) e, congrArg (fun z => z.2.2) e⟩
      have hp3 := sm3 _ _ hp2
      have ha3 := sm3 _ _ ha
      have smC := same_tr sm3 smB
      clear e ho' nb smB sm3 hp2 ha
      repeat cell_call
      intro L1 n1
      have hp4 := hp_ne (o' := .lst [.ref a, .ref b]) (ne_of_none hp3 n1) hp3
      have ha4 := hp_ne (o' := .lst [.ref a, .ref b]) (ne_of_none ha3 n1) ha3
      have hb4 := hp_ne (o' := .lst [.ref a, .ref b]) (ne_of_none hb n1) hb
      have g1 : (upd H3 L1 (.lst [.ref a, .ref b])) L1 = some (.lst [.ref a, .ref b]) := upd_same
      have smD : Same H (upd H3 L1 (.lst [.ref a, .ref b])) := same_trN n1 smC
      generalize upd H3 L1 (.lst [.ref a, .ref b]) = H4 at *
      clear n1 smC hp3 ha3 hb
      repeat cell_call
      intro L2 n2
      have hp5 := hp_ne (o' := .lst [.ref p, .ref p]) (ne_of_none hp4 n2) hp4
      have ha5 := hp_ne (o' := .lst [.ref p, .ref p]) (ne_of_none ha4 n2) ha4
      have hb5 := hp_ne (o' := .lst [.ref p, .ref p]) (ne_of_none hb4 n2) hb4
      have g2 := hp_ne (o' := .lst [.ref p, .ref p]) (ne_of_none g1 n2) g1
      repeat cell_call
      refine ⟨_, _, .list [.tuple ([y, m, d].map PyData.int), .tuple ([y, m, d].map PyData.int)], rfl, .lst (SqL.of g2) (.cons (dp_ymd ha5) (.cons (dp_ymd hb5) .nil)), .lst (SqL.of upd_same) (.cons (dp_ymd hp5) (.cons (dp_ymd hp5) .nil)),
        Sm.use (Sm.list (Sm.cons (Sm.tuple (Sm.ints [y, m, d])) (Sm.cons (Sm.tuple (Sm.ints [y, m, d])) Sm.nil))) (by decide) (by simp) fun HZ FZ => ?_⟩
      exact q _ (same_tr FZ (same_trN n2 smD))
    · repeat cell_call
      intro p np
      have hp : (upd H1 p (.lst [.str "Unreadable", .str u, .bl true])) p = some (.lst [.str "Unreadable", .str u, .bl true]) := upd_same
      have smA : Same H (upd H1 p (.lst [.str "Unreadable", .str u, .bl true])) := same_trN np sm
      generalize upd H1 p (.lst [.str "Unreadable", .str u, .bl true]) = H1' at *
      clear np sm
      repeat cell_call
      refine ⟨u, _, rfl, tu.le, fun y' m' d' ho' => (by rw [ho] at ho'; cases ho'), fun _ a H2 na sm2 ha => ?_⟩
      have hp2 := sm2 _ _ hp
      have smB := same_tr sm2 smA
      clear na smA sm2 hp
      repeat cell_call
      refine ⟨u, _, rfl, tu.le, fun y' m' d' ho' => (by rw [ho] at ho'; cases ho'), fun _ b H3 nb sm3 hb => ?_⟩
      have hp3 := sm3 _ _ hp2
      have ha3 := sm3 _ _ ha
      have smC := same_tr sm3 smB
      clear nb smB sm3 hp2 ha
      repeat cell_call
      intro L1 n1
      have hp4 := hp_ne (o' := .lst [.ref a, .ref b]) (ne_of_none hp3 n1) hp3
      have ha4 := hp_ne (o' := .lst [.ref a, .ref b]) (ne_of_none ha3 n1) ha3
      have hb4 := hp_ne (o' := .lst [.ref a, .ref b]) (ne_of_none hb n1) hb
      have g1 : (upd H3 L1 (.lst [.ref a, .ref b])) L1 = some (.lst [.ref a, .ref b]) := upd_same
      have smD : Same H (upd H3 L1 (.lst [.ref a, .ref b])) := same_trN n1 smC
      generalize upd H3 L1 (.lst [.ref a, .ref b]) = H4 at *
      clear n1 smC hp3 ha3 hb
      repeat cell_call
      intro L2 n2
      have hp5 := hp_ne (o' := .lst [.ref p, .ref p]) (ne_of_none hp4 n2) hp4
      have ha5 := hp_ne (o' := .lst [.ref p, .ref p]) (ne_of_none ha4 n2) ha4
      have hb5 := hp_ne (o' := .lst [.ref p, .ref p]) (ne_of_none hb4 n2) hb4
      have g2 := hp_ne (o' := .lst [.ref p, .ref p]) (ne_of_none g1 n2) g1
      repeat cell_call
      have su := Sm.list (Sm.cons (Sm.str (so_lit "Unreadable")) (Sm.cons (Sm.str tu.so) (Sm.cons (Sm.bool true) Sm.nil)))
      refine ⟨_, _, .list [.list [.str "Unreadable", .str u, .bool true], .list [.str "Unreadable", .str u, .bool true]], rfl, .lst (SqL.of g2) (.cons (dp_unr ha5) (.cons (dp_unr hb5) .nil)), .lst (SqL.of upd_same) (.cons (dp_unr hp5) (.cons (dp_unr hp5) .nil)),
        Sm.use (Sm.list (Sm.cons su (Sm.cons su Sm.nil))) (by decide) (by simp) fun HZ FZ => ?_⟩
      exact q _ (same_tr FZ (same_trN n2 smD))

end
end Mc
namespace Mc
open PySem PySem.Spec PyProof.Rows L2
open HotX L2H
local macro_rules | `(tactic| lcg_src) => `(tactic| first
  | with_reducible assumption
  | ((with_reducible apply Ne.symm); with_reducible assumption)
  | ((with_reducible apply ne_nf); (with_reducible assumption); lcg_off)
  | ((with_reducible apply Ne.symm); (with_reducible apply ne_nf); (with_reducible assumption); lcg_off))
local macro_rules | `(tactic| lcg_off) => `(tactic| first
  | with_reducible assumption
  | (with_reducible exact upd_same)
  | ((with_reducible apply hp_ne); lcg_src; lcg_off)
  | ((with_reducible apply hp_same); (with_reducible assumption); lcg_off)
  | ((with_reducible apply hp_frm); (with_reducible assumption); lcg_src; lcg_off)
  | ((with_reducible apply hp_frm2); (with_reducible assumption); lcg_src; lcg_src; lcg_off)
  | assumption)
local macro_rules | `(tactic| kpt_turns) => `(tactic| first
  | with_reducible assumption
  | ((with_reducible apply SqL.of); lcg_off)
  | ((with_reducible apply SqT.of); lcg_off)
  | ((with_reducible apply Frm.seq); (with_reducible assumption); lcg_src; kpt_turns)
  | ((with_reducible apply Frm.tup); (with_reducible assumption); lcg_src; kpt_turns)
  | ((with_reducible apply Frm2.seq); (with_reducible assumption); lcg_src; lcg_src; kpt_turns)
  | ((with_reducible apply Frm2.tup); (with_reducible assumption); lcg_src; lcg_src; kpt_turns)
  | ((with_reducible apply L2.Same.seq); (with_reducible assumption); kpt_turns)
  | ((with_reducible apply Same.tup); (with_reducible assumption); kpt_turns)
  | assumption)
local macro_rules | `(tactic| k_memK) => `(tactic| first
  | with_reducible exact Frm.refl _
  | with_reducible assumption
  | ((with_reducible apply Frm.trN); (with_reducible assumption); k_memK)
  | ((with_reducible apply Frm.trU); k_memK)
  | ((with_reducible apply Frm.trM); (with_reducible assumption); k_memK)
  | ((with_reducible apply Frm.tr); (with_reducible assumption); k_memK)
  | ((with_reducible apply Frm.trS); (with_reducible assumption); k_memK)
  | with_reducible exact Frm2.refl _
  | ((with_reducible apply Frm2.trN); (with_reducible assumption); k_memK)
  | ((with_reducible apply Frm2.trU); k_memK)
  | ((with_reducible apply Frm2.trV); k_memK)
  | ((with_reducible apply Frm2.trM); (with_reducible assumption); k_memK)
  | ((with_reducible apply Frm2.tr); (with_reducible assumption); k_memK)
  | ((with_reducible apply Frm2.trS); (with_reducible assumption); k_memK))
local macro_rules | `(tactic| k_allIn) => `(tactic| first
  | with_reducible exact L2.Same.refl _
  | with_reducible assumption
  | ((with_reducible apply same_trN); (with_reducible assumption); k_allIn)
  | ((with_reducible apply same_trU); (with_reducible assumption); k_allIn)
  | ((with_reducible apply same_tr); (with_reducible assumption); k_allIn))
local macro_rules | `(tactic| k_ownIn) => `(tactic| first
  | with_reducible refine st_seq ?_
  | ((with_reducible refine' st_setF ?e ?_); (case e => intro x; (simp only [List.set_cons_zero, List.set_cons_succ]; exact rfl)))
  | with_reducible refine st_c ?_
  | ((with_reducible refine' st_var ?h ?_); (case h => exact rfl))
  | with_reducible refine st_op ?_
  | with_reducible refine st_I0 ?_
  | ((with_reducible refine' st_powL ?c ?e ?_); (case c => exact ⟨by decide, by decide, by decide⟩); (case e => (simp only [Int.reduceToNat, Int.reducePow]; exact rfl)))
  | ((with_reducible refine st_I ?h ?_); (case h => first | with_reducible assumption | (show (0 : Int) < _; omega) | exact ⟨by omega, by omega⟩ | exact .inl ⟨by omega, by omega⟩ | exact .inr ⟨by omega, by omega⟩ | exact ⟨by omega, by omega, by omega⟩))
  | with_reducible refine st_nil ?_
  | with_reducible refine st_cons ?_
  | with_reducible refine st_ret ?_
  | with_reducible refine st_call ?_
  | with_reducible refine st_cb ?_
  | with_reducible refine st_exb ?_
  | ((with_reducible refine' st_ixL ?h1 ?h2 ?_); (case h1 => kpt_turns); (case h2 => first | ((with_reducible apply at0); exact rfl) | ((with_reducible apply at1); exact rfl) | ((with_reducible apply at2); exact rfl) | ((with_reducible apply at3); exact rfl) | with_reducible assumption))
  | ((with_reducible refine' st_ixT ?h1 ?h2 ?_); (case h1 => kpt_turns); (case h2 => first | ((with_reducible apply at0); exact rfl) | ((with_reducible apply at1); exact rfl) | ((with_reducible apply at2); exact rfl) | with_reducible assumption))
  | ((with_reducible refine' st_ixP ?h1 ?h2 ?h3 ?h4 ?_); (case h1 => kpt_turns); (case h2 => (repeat constructor)); (case h3 => omega); (case h4 => (simp; omega)))
  | ((with_reducible refine' st_ixPT ?h1 ?h2 ?h3 ?h4 ?_); (case h1 => kpt_turns); (case h2 => (repeat constructor)); (case h3 => omega); (case h4 => (simp; omega)))
  | with_reducible refine st_tB ?_
  | with_reducible refine st_test ?_
  | with_reducible refine st_and ?_
  | with_reducible refine st_or ?_
  | with_reducible refine st_not ?_
  | with_reducible refine st_andV ?_
  | with_reducible refine st_orV ?_
  | with_reducible refine st_notV ?_
  | with_reducible refine st_chain ?_
  | with_reducible refine st_iT ?_
  | with_reducible refine st_iF ?_
  | with_reducible refine st_iNT ?_
  | with_reducible refine st_iNF ?_
  | with_reducible refine st_iRf ?_
  | with_reducible refine st_iNRf ?_
  | with_reducible refine st_asg ?_
  | ((with_reducible refine' st_parF ?e ?_); (case e => intro x y; (simp only [List.set_cons_zero, List.set_cons_succ]; exact rfl)))
  | with_reducible refine st_par2 ?_
  | with_reducible refine st_fst ?_
  | with_reducible refine st_jsE ?_
  | with_reducible refine st_js ?_
  | with_reducible refine st_fmt ?_
  | with_reducible refine st_joinK ?_
  | with_reducible refine st_strx ?_
  | ((with_reducible refine' st_par3F ?e ?_); (case e => intro x y z; (simp only [List.set_cons_zero, List.set_cons_succ]; exact rfl)))
  | with_reducible refine st_par3 ?_
  | ((with_reducible refine' st_augF ?h ?e ?_); (case h => exact rfl); (case e => intro x; (simp only [List.set_cons_zero, List.set_cons_succ]; exact rfl)))
  | with_reducible refine st_ipI ?_
  | with_reducible refine st_drop ?_
  | with_reducible refine st_next ?_
  | with_reducible refine st_un ?_
  | with_reducible refine st_U ?_
  | ((with_reducible refine' st_gNF ?e ?_); (case e => (simp only [List.set_cons_zero, List.set_cons_succ]; exact rfl)))
  | with_reducible refine st_gN ?_
  | ((with_reducible refine' st_gT ?h1 ?h2 ?_); (case h1 => kpt_turns); (case h2 => exact rfl))
  | with_reducible refine st_gC ?_
  | with_reducible refine st_gE ?_
  | with_reducible refine st_gS ?_
  | ((with_reducible refine' st_setL ?h1 ?h2 ?_); (case h1 => lcg_off); (case h2 => exact rfl))
  | with_reducible refine st_lst ?_
  | with_reducible refine st_tup ?_
  | ((with_reducible refine st_new ?h ?_); (case h => (simp; done)))
  | with_reducible refine st_callN ?_
  | with_reducible refine st_bm ?_
  | with_reducible refine st_bm0 ?_
  | ((with_reducible refine' st_tyL ?h ?_); (case h => kpt_turns))
  | ((with_reducible refine st_eq ?h ?_); (case h => exact rfl))
  | ((with_reducible refine st_ne ?h ?_); (case h => exact rfl))
  | with_reducible refine st_i1 ?_
  | with_reducible refine st_i2 ?_
  | with_reducible refine st_int ?_
  | with_reducible refine st_intb ?_
  | ((with_reducible refine' st_lenQ ?h ?_); (case h => kpt_turns))
  | ((with_reducible refine' st_lenQT ?h ?_); (case h => kpt_turns))
  | with_reducible refine st_yes ?_
  | with_reducible refine st_brk ?_
  | with_reducible refine st_cont ?_
  | with_reducible refine st_retN ?_
  | with_reducible refine st_forI ?_
  | with_reducible refine st_lcI ?_
  | with_reducible refine st_itL ?_
  | with_reducible refine st_itT ?_
  | with_reducible refine st_rng1 ?_
  | with_reducible refine st_rng2 ?_
  | with_reducible refine st_ref ?_
  | with_reducible refine st_sl ?_
  | with_reducible refine st_pN ?_
  | with_reducible refine st_pS ?_
  | with_reducible refine st_pI ?_
  | (refine ⟨rfl, ?_⟩))
local macro_rules | `(tactic| cell_call) => `(tactic| first
  | with_reducible refine st_seq ?_
  | ((with_reducible refine' st_setF ?e ?_); (case e => intro x; (simp only [List.set_cons_zero, List.set_cons_succ]; exact rfl)))
  | with_reducible refine st_c ?_
  | ((with_reducible refine' st_var ?h ?_); (case h => exact rfl))
  | with_reducible refine st_op ?_
  | with_reducible refine st_I0 ?_
  | ((with_reducible refine' st_powL ?c ?e ?_); (case c => exact ⟨by decide, by decide, by decide⟩); (case e => (simp only [Int.reduceToNat, Int.reducePow]; exact rfl)))
  | ((with_reducible refine st_I ?h ?_); (case h => first | with_reducible assumption | (show (0 : Int) < _; omega) | exact ⟨by omega, by omega⟩ | exact .inl ⟨by omega, by omega⟩ | exact .inr ⟨by omega, by omega⟩ | exact ⟨by omega, by omega, by omega⟩))
  | with_reducible refine st_nil ?_
  | with_reducible refine st_cons ?_
  | with_reducible refine st_ret ?_
  | with_reducible refine st_call ?_
  | with_reducible refine st_cb ?_
  | with_reducible refine st_exb ?_
  | ((with_reducible refine' st_ixL ?h1 ?h2 ?_); (case h1 => kpt_turns); (case h2 => first | ((with_reducible apply at0); exact rfl) | ((with_reducible apply at1); exact rfl) | ((with_reducible apply at2); exact rfl) | ((with_reducible apply at3); exact rfl) | with_reducible assumption))
  | ((with_reducible refine' st_ixT ?h1 ?h2 ?_); (case h1 => kpt_turns); (case h2 => first | ((with_reducible apply at0); exact rfl) | ((with_reducible apply at1); exact rfl) | ((with_reducible apply at2); exact rfl) | with_reducible assumption))
  | ((with_reducible refine' st_ixP ?h1 ?h2 ?h3 ?h4 ?_); (case h1 => kpt_turns); (case h2 => (repeat constructor)); (case h3 => omega); (case h4 => (simp; omega)))
  | ((with_reducible refine' st_ixPT ?h1 ?h2 ?h3 ?h4 ?_); (case h1 => kpt_turns); (case h2 => (repeat constructor)); (case h3 => omega); (case h4 => (simp; omega)))
  | with_reducible refine st_tB ?_
  | with_reducible refine st_test ?_
  | with_reducible refine st_and ?_
  | with_reducible refine st_or ?_
  | with_reducible refine st_not ?_
  | with_reducible refine st_andV ?_
  | with_reducible refine st_orV ?_
  | with_reducible refine st_notV ?_
  | with_reducible refine st_chain ?_
  | with_reducible refine st_iT ?_
  | with_reducible refine st_iF ?_
  | with_reducible refine st_iNT ?_
  | with_reducible refine st_iNF ?_
  | with_reducible refine st_iRf ?_
  | with_reducible refine st_iNRf ?_
  | with_reducible refine st_asg ?_
  | ((with_reducible refine' st_parF ?e ?_); (case e => intro x y; (simp only [List.set_cons_zero, List.set_cons_succ]; exact rfl)))
  | with_reducible refine st_par2 ?_
  | with_reducible refine st_fst ?_
  | with_reducible refine st_jsE ?_
  | with_reducible refine st_js ?_
  | with_reducible refine st_fmt ?_
  | with_reducible refine st_joinK ?_
  | with_reducible refine st_strx ?_
  | ((with_reducible refine' st_par3F ?e ?_); (case e => intro x y z; (simp only [List.set_cons_zero, List.set_cons_succ]; exact rfl)))
  | with_reducible refine st_par3 ?_
  | ((with_reducible refine' st_augF ?h ?e ?_); (case h => exact rfl); (case e => intro x; (simp only [List.set_cons_zero, List.set_cons_succ]; exact rfl)))
  | with_reducible refine st_ipI ?_
  | with_reducible refine st_drop ?_
  | with_reducible refine st_next ?_
  | with_reducible refine st_un ?_
  | with_reducible refine st_U ?_
  | ((with_reducible refine' st_gNF ?e ?_); (case e => (simp only [List.set_cons_zero, List.set_cons_succ]; exact rfl)))
  | with_reducible refine st_gN ?_
  | ((with_reducible refine' st_gT ?h1 ?h2 ?_); (case h1 => kpt_turns); (case h2 => exact rfl))
  | with_reducible refine st_gC ?_
  | with_reducible refine st_gE ?_
  | with_reducible refine st_gS ?_
  | ((with_reducible refine' st_setL ?h1 ?h2 ?_); (case h1 => lcg_off); (case h2 => exact rfl))
  | with_reducible refine st_lst ?_
  | with_reducible refine st_tup ?_
  | ((with_reducible refine st_new ?h ?_); (case h => (simp; done)))
  | with_reducible refine st_callN ?_
  | with_reducible refine st_bm ?_
  | with_reducible refine st_bm0 ?_
  | ((with_reducible refine' st_tyL ?h ?_); (case h => kpt_turns))
  | ((with_reducible refine st_eq ?h ?_); (case h => exact rfl))
  | ((with_reducible refine st_ne ?h ?_); (case h => exact rfl))
  | with_reducible refine st_i1 ?_
  | with_reducible refine st_i2 ?_
  | with_reducible refine st_int ?_
  | with_reducible refine st_intb ?_
  | ((with_reducible refine' st_lenQ ?h ?_); (case h => kpt_turns))
  | ((with_reducible refine' st_lenQT ?h ?_); (case h => kpt_turns))
  | with_reducible refine st_yes ?_
  | with_reducible refine st_brk ?_
  | with_reducible refine st_cont ?_
  | with_reducible refine st_retN ?_
  | with_reducible refine st_forI ?_
  | with_reducible refine st_lcI ?_
  | with_reducible refine st_itL ?_
  | with_reducible refine st_itT ?_
  | with_reducible refine st_rng1 ?_
  | with_reducible refine st_rng2 ?_
  | with_reducible refine st_ref ?_
  | with_reducible refine st_sl ?_
  | with_reducible refine st_pN ?_
  | with_reducible refine st_pS ?_
  | with_reducible refine st_pI ?_
  | (refine ⟨rfl, ?_⟩)
  | with_reducible refine st_ifE ?_
  | with_reducible refine st_ifS ?_)
local macro_rules | `(tactic| kpf_close) => `(tactic| first
  | cell_call
  | refine st_iD (fun _ => ?_) (fun _ => ?_)
  | refine st_iND (fun _ => ?_) (fun _ => ?_)
  | refine st_iNB (fun _ => ?_) (fun _ => ?_)
  | refine st_iB (fun _ => ?_) (fun _ => ?_))
local macro_rules | `(tactic| k_places) => `(tactic| first
  | with_reducible refine isi_non_bool ?_
  | with_reducible refine isi_non_int ?_
  | with_reducible refine isi_non_str ?_
  | with_reducible refine isi_non_list ?_
  | with_reducible refine isi_non_tuple ?_
  | with_reducible refine isi_bl_bool ?_
  | with_reducible refine isi_bl_int ?_
  | with_reducible refine isi_bl_str ?_
  | with_reducible refine isi_bl_list ?_
  | with_reducible refine isi_bl_tuple ?_
  | with_reducible refine isi_int_bool ?_
  | with_reducible refine isi_int_int ?_
  | with_reducible refine isi_int_str ?_
  | with_reducible refine isi_int_list ?_
  | with_reducible refine isi_int_tuple ?_
  | with_reducible refine isi_str_bool ?_
  | with_reducible refine isi_str_int ?_
  | with_reducible refine isi_str_str ?_
  | with_reducible refine isi_str_list ?_
  | with_reducible refine isi_str_tuple ?_
  | ((with_reducible refine' isi_list_bool ?h ?_); (case h => kpt_turns))
  | ((with_reducible refine' isi_list_int ?h ?_); (case h => kpt_turns))
  | ((with_reducible refine' isi_list_str ?h ?_); (case h => kpt_turns))
  | ((with_reducible refine' isi_list_list ?h ?_); (case h => kpt_turns))
  | ((with_reducible refine' isi_list_tuple ?h ?_); (case h => kpt_turns))
  | ((with_reducible refine' isi_tuple_bool ?h ?_); (case h => kpt_turns))
  | ((with_reducible refine' isi_tuple_int ?h ?_); (case h => kpt_turns))
  | ((with_reducible refine' isi_tuple_str ?h ?_); (case h => kpt_turns))
  | ((with_reducible refine' isi_tuple_list ?h ?_); (case h => kpt_turns))
  | ((with_reducible refine' isi_tuple_tuple ?h ?_); (case h => kpt_turns)))
local macro_rules | `(tactic| cell_call) => `(tactic| first
  | with_reducible refine st_zip ?_)
local macro_rules | `(tactic| k_ownIn) => `(tactic| first
  | with_reducible refine st_zip ?_)
local macro_rules | `(tactic| cell_call) => `(tactic| first
  | with_reducible refine st_veI ?_
  | with_reducible refine st_ost ?_
  | with_reducible refine st_mko ?_
  | with_reducible refine st_xv ?_
  | with_reducible refine st_lrg ?_
  | with_reducible refine st_callS ?_
  | with_reducible refine st_rg2 ?_
  | with_reducible refine st_rgE ?_)
local macro_rules | `(tactic| k_ownIn) => `(tactic| first
  | with_reducible refine st_veI ?_
  | with_reducible refine st_ost ?_
  | with_reducible refine st_mko ?_
  | with_reducible refine st_xv ?_
  | with_reducible refine st_lrg ?_
  | with_reducible refine st_callS ?_
  | with_reducible refine st_rg2 ?_
  | with_reducible refine st_rgE ?_)
local macro_rules | `(tactic| cell_call) => `(tactic| first
  | with_reducible refine st_inC ?_
  | with_reducible refine st_itS ?_
  | with_reducible refine st_itS1 ?_)
local macro_rules | `(tactic| k_ownIn) => `(tactic| first
  | with_reducible refine st_inC ?_
  | with_reducible refine st_itS ?_
  | with_reducible refine st_itS1 ?_)
local macro_rules | `(tactic| cell_call) => `(tactic| first
  | with_reducible refine st_notInC ?_
  | with_reducible refine st_turnS ?_
  | with_reducible refine st_callT ?_)
local macro_rules | `(tactic| k_ownIn) => `(tactic| first
  | with_reducible refine st_notInC ?_
  | with_reducible refine st_turnS ?_
  | with_reducible refine st_callT ?_)
section
variable {P : Program} {w : World} {K : PySem.W.Frag} {mg : Str → Option Value} {base : Heap}
def sp_law_bent (K : PySem.W.Frag) : Sp := fun vs H Q _ => ∃ (S D : Addr) (u : Str) (c : Int), vs = [.ref S, .str u] ∧ SrcAt H S D c ∧ c ≤ 10000000000 ∧ TkO 700 u ∧
  ∀ (u' : Str) (H' : Hp), TkO 7000 u' → SrcAt H' S D (c + 20) → Frm2 S D H H' → Q (.str u') H'
theorem ok_law_bent (T : Txt K mg) : FnOk P w K mg base CX0 2 (He.ga K "_law_bent") T.fd_law_bent ["source", "line"] (sp_law_bent K) := by
  refine T.F_law_bent.ok sc_law_bent (fun vs H Q E h => ?_) (fun cdv A outer s H vs Q E hr h => ?_)
  · obtain ⟨S, D, u, c, rfl, _⟩ := h
    rfl
  · obtain ⟨S, D, u, c, rfl, P0, hc, tu, q⟩ := h
    refine ⟨_, PSs.nox (pss_cons (ps_for PassesOwn.never rfl (pi_range1 (by rfl) T.b_range (pa_cons (pe_op op_add pe_int (pe_call (ok_law_draw T) (hr.mono (by decide)) rfl T.g_law_draw T.F_law_draw.kp (b_law_draw T) .nil pass0 (pa_cons (pv 0) (pa_cons pe_int pa_nil)))) pa_nil)) (pg_name (i := 2) sc_law_bent.nd rfl (Or.inl rfl)) (pss_cons (ps_set (i := 3) sc_law_bent.nd rfl (Or.inl rfl) (pe_call (ok_law_draw T) (hr.mono (by decide)) rfl T.g_law_draw T.F_law_draw.kp (b_law_draw T) .nil pass0 (pa_cons (pv 0) (pa_cons (pe_op op_add (pe_callB call_lenTx (by rfl) T.b_len PySem.boot_len (pa_cons (pv 1) pa_nil)) pe_int) pa_nil))))
      (pss_cons (ps_set (i := 4) sc_law_bent.nd rfl (Or.inl rfl) (pe_ix ix_str pe_str (pe_call (ok_law_draw T) (hr.mono (by decide)) rfl T.g_law_draw T.F_law_draw.kp (b_law_draw T) .nil pass0 (pa_cons (pv 0) (pa_cons pe_int pa_nil))) (fun _ _ => rfl)))
      (pss_cons (ps_set (i := 5) sc_law_bent.nd rfl (Or.inl rfl) (pe_lst (pa_cons (pe_op op_addS (pe_op op_addS (pe_slice sl_str (pv 1) po_none (po_some (pv 3))) (pv 4)) (pe_slice sl_str (pv 1) (po_some (pv 3)) po_none)) (pa_cons (pe_op op_addS (pe_slice sl_str (pv 1) po_none (po_some (pv 3))) (pe_slice sl_str (pv 1) (po_some (pe_op op_add (pv 3) pe_int)) po_none)) (pa_cons (pe_op op_addS (pe_op op_addS (pe_slice sl_str (pv 1) po_none (po_some (pv 3))) (pv 4)) (pe_slice sl_str (pv 1) (po_some (pe_op op_add (pv 3) pe_int)) po_none)) pa_nil)))))
      (pss_cons (ps_set (i := 5) sc_law_bent.nd rfl (Or.inl rfl) (pe_op op_cat (pv 5) (pe_lst (pa_cons (pe_op op_addS (pe_slice sl_str (pv 1) po_none (po_some (pv 3))) (pe_slice sl_str (pv 1) (po_some (pe_callB (call_maxI rfl) (by rfl) T.b_max (by decide +kernel) (pa_cons pe_int (pa_cons (pe_op op_sub (pv 3) pe_int) pa_nil)))) po_none)) (pa_cons (pe_op op_addS (pe_op op_addS (pe_slice sl_str (pv 1) po_none (po_some (pv 3))) (pe_turnS (pe_slice sl_str (pv 1) (po_some (pv 3)) (po_some (pe_op op_add (pv 3) pe_int))))) (pe_slice sl_str (pv 1) (po_some (pe_op op_add (pv 3) pe_int)) po_none)) pa_nil)))))
      (pss_one (ps_set (i := 1) sc_law_bent.nd rfl (Or.inl rfl) (pe_ix (show IxR _ (rIxL K) from ix_list) (pv 5) (pe_call (ok_law_draw T) (hr.mono (by decide)) rfl T.g_law_draw T.F_law_draw.kp (b_law_draw T) .nil pass0 (pa_cons (pv 0) (pa_cons pe_int pa_nil))) (fun _ _ => rfl)))))))))
      (pss_one (ps_ret (pv 1)))), ?_⟩
    rw [start_law_bent]
    repeat cell_call
    refine ⟨S, D, _, _, rfl, P0, by omega, by decide, by decide, fun r0 H0 a0 b0 P1 F1 => ?_⟩
    repeat cell_call
    refine ⟨by omega, by omega, fR (fun i σ' H' => Frm2 S D H H' ∧ SrcAt H' S D (c + 1 + 5 * i) ∧ ∃ u b t a g s, TkO b u ∧ ((b ≤ 700 ∧ i = 0) ∨ (b ≤ 2200 ∧ i = 1) ∨ (b ≤ 7000 ∧ i = 2)) ∧ σ' = [some (.ref S), some (.str u), t, a, g, s]) ⟨F1, P1.mono (by omega), u, 700, none, none, none, none, tu, .inl ⟨by omega, by omega⟩, rfl⟩ (fun i σ1 H1 hi e => ?_) (fun σ1 H1 e => ?_)⟩
    · clear P1 F1 tu
      obtain ⟨FF, P1, u, b, t, a', g', s', tu, hb, rfl⟩ := e
      have hi2 : i < 2 := by omega
      have hb1 : b ≤ 2200 := by omega
      have ul := tu.le
      repeat cell_call
      refine st_lenTx (by omega) ?_
      repeat cell_call
      refine ⟨S, D, _, _, rfl, P1, by omega, by omega, by omega, fun at_ H2 a1 b1 P2 F2 => ?_⟩
      have FF2 : Frm2 S D H H2 := by k_memK
      clear F2 FF P1
      repeat cell_call
      refine ⟨S, D, _, _, rfl, P2, by omega, by decide, by decide, fun r3 H3 a3 b3 P3 F3 => ?_⟩
      have FF3 : Frm2 S D H H3 := by k_memK
      clear F3 FF2 P2
      repeat cell_call
      refine st_ixSm (by decide) a3 (by have e : (Str.ofString "0123456789+-/ none.x_,~").length = 23 := (by decide +kernel); omega) fun ch hch => ?_
      have tg : TkO 1 ⟨#[ch]⟩ := TkO.one (n := 23) (TkO.lit (by decide +kernel)) hch
      generalize (⟨#[ch]⟩ : Str) = sg at *
      clear hch a3 b3
      have gl := tg.le
      have t1 := tu.cut none (some at_)
      have t2 := tu.cut (some at_) none
      have t3 := tu.cut (some (at_ + 1)) none
      have t4 := tu.cut (some (max 0 (at_ - 1))) none
      have t5 := tu.cut (some at_) (some (at_ + 2))
      have t6 := tu.cut (some (at_ + 2)) none
      have l1 := t1.le
      have l2 := t2.le
      have l3 := t3.le
      have l4 := t4.le
      have l5 := t5.le
      have l6 := t6.le
      repeat (first | cell_call | refine st_slS (by omega) ?_ | refine st_addS (by (try simp only [PySem.Str.length_append]); omega) ?_)
      intro L1 n1
      have x1 := (t1.app tg).app t2
      have x2 := t1.app t3
      have x3 := (t1.app tg).app t3
      have x4 := t1.app t4
      have g1 : (upd H3 L1 (.lst [.str (cutS u none (some at_) ++ sg ++ cutS u (some at_) none), .str (cutS u none (some at_) ++ cutS u (some (at_ + 1)) none), .str (cutS u none (some at_) ++ sg ++ cutS u (some (at_ + 1)) none)])) L1 = _ := upd_same
      have P4 := P3.new (o := .lst [.str (cutS u none (some at_) ++ sg ++ cutS u (some at_) none), .str (cutS u none (some at_) ++ cutS u (some (at_ + 1)) none), .str (cutS u none (some at_) ++ sg ++ cutS u (some (at_ + 1)) none)]) n1
      have FF4 : Frm2 S D H (upd H3 L1 (.lst [.str (cutS u none (some at_) ++ sg ++ cutS u (some at_) none), .str (cutS u none (some at_) ++ cutS u (some (at_ + 1)) none), .str (cutS u none (some at_) ++ sg ++ cutS u (some (at_ + 1)) none)])) := by k_memK
      generalize upd H3 L1 (.lst [.str (cutS u none (some at_) ++ sg ++ cutS u (some at_) none), .str (cutS u none (some at_) ++ cutS u (some (at_ + 1)) none), .str (cutS u none (some at_) ++ sg ++ cutS u (some (at_ + 1)) none)]) = H4 at *
      generalize cutS u none (some at_) ++ sg ++ cutS u (some at_) none = w1 at *
      generalize cutS u none (some at_) ++ cutS u (some (at_ + 1)) none = w2 at *
      generalize cutS u none (some at_) ++ sg ++ cutS u (some (at_ + 1)) none = w3 at *
      clear n1 P3 FF3
      repeat (first | cell_call | refine st_slS (by omega) ?_ | refine st_addS (by (try simp only [PySem.Str.length_append]); omega) ?_)
      refine ⟨by omega, fun v hv => ?_⟩
      have t7 := (hv.tk t5).mono l5
      have l7 := t7.le
      repeat (first | cell_call | refine st_slS (by omega) ?_ | refine st_addS (by (try simp only [PySem.Str.length_append]); omega) ?_)
      have x5 := (t1.app t7).app t6
      generalize cutS u none (some at_) ++ cutS u (some (max 0 (at_ - 1))) none = w4 at *
      generalize cutS u none (some at_) ++ v ++ cutS u (some (at_ + 2)) none = w5 at *
      clear l1 l2 l3 l4 l5 l6 l7 t1 t2 t3 t4 t5 t6 t7 hv
      intro L2 n2
      have g2 := hp_ne (o' := .lst [.str w4, .str w5]) (ne_of_none g1 n2) g1
      have g3 : (upd H4 L2 (.lst [.str w4, .str w5])) L2 = some (.lst [.str w4, .str w5]) := upd_same
      have P5 := P4.new (o := .lst [.str w4, .str w5]) n2
      have FF5 : Frm2 S D H (upd H4 L2 (.lst [.str w4, .str w5])) := by k_memK
      generalize upd H4 L2 (.lst [.str w4, .str w5]) = H5 at *
      clear n2 P4 FF4 g1
      refine st_cat g2 g3 (by show 5 < 100000; decide) fun L3 n3 => ?_
      have g4 : (upd H5 L3 (.lst ([.str w1, .str w2, .str w3] ++ [.str w4, .str w5]))) L3 = some (.lst [.str w1, .str w2, .str w3, .str w4, .str w5]) := upd_same
      have e4 := P5.neS n3
      have f4 := P5.neD n3
      have P6 := P5.new (o := .lst ([.str w1, .str w2, .str w3] ++ [.str w4, .str w5])) n3
      have FF6 : Frm2 S D H (upd H5 L3 (.lst ([.str w1, .str w2, .str w3] ++ [.str w4, .str w5]))) := by k_memK
      generalize upd H5 L3 (.lst ([.str w1, .str w2, .str w3] ++ [.str w4, .str w5])) = H6 at *
      clear n3 P5 FF5 g2 g3
      repeat cell_call
      refine ⟨S, D, _, _, rfl, P6, by omega, by decide, by decide, fun r7 H7 a7 b7 P7 F7 => ?_⟩
      have g5 : H7 L3 = some _ := F7 _ _ e4 f4 g4
      have FF7 : Frm2 S D H H7 := by k_memK
      clear F7 FF6 P6 g4
      have key : ∃ w, atI ([.str w1, .str w2, .str w3, .str w4, .str w5] : List V) r7 = some (.str w) ∧ TkO (3 * b + 1) w := by
        have h : r7 = 0 ∨ r7 = 1 ∨ r7 = 2 ∨ r7 = 3 ∨ r7 = 4 := by omega
        rcases h with rfl | rfl | rfl | rfl | rfl
        · exact ⟨w1, rfl, x1.mono (by omega)⟩
        · exact ⟨w2, rfl, x2.mono (by omega)⟩
        · exact ⟨w3, rfl, x3.mono (by omega)⟩
        · exact ⟨w4, rfl, x4.mono (by omega)⟩
        · exact ⟨w5, rfl, x5.mono (by omega)⟩
      obtain ⟨w, aw, tw⟩ := key
      refine st_ixL (SqL.of g5) aw ?_
      repeat cell_call
      exact ⟨FF7, P7.mono (by omega), w, _, _, _, _, _, tw, by omega, rfl⟩
    · obtain ⟨FF, P1, u, b, t, a', g', s', tu, hb, rfl⟩ := e
      repeat cell_call
      exact q u _ (tu.mono (by omega)) (P1.mono (by omega)) FF

end
end Mc
namespace Mc
open PySem PySem.Spec PyProof.Rows L2
open HotX L2H
local macro_rules | `(tactic| lcg_src) => `(tactic| first
  | with_reducible assumption
  | ((with_reducible apply Ne.symm); with_reducible assumption)
  | ((with_reducible apply ne_nf); (with_reducible assumption); lcg_off)
  | ((with_reducible apply Ne.symm); (with_reducible apply ne_nf); (with_reducible assumption); lcg_off))
local macro_rules | `(tactic| lcg_off) => `(tactic| first
  | with_reducible assumption
  | (with_reducible exact upd_same)
  | ((with_reducible apply hp_ne); lcg_src; lcg_off)
  | ((with_reducible apply hp_same); (with_reducible assumption); lcg_off)
  | ((with_reducible apply hp_frm); (with_reducible assumption); lcg_src; lcg_off)
  | ((with_reducible apply hp_frm2); (with_reducible assumption); lcg_src; lcg_src; lcg_off)
  | assumption)
local macro_rules | `(tactic| kpt_turns) => `(tactic| first
  | with_reducible assumption
  | ((with_reducible apply SqL.of); lcg_off)
  | ((with_reducible apply SqT.of); lcg_off)
  | ((with_reducible apply Frm.seq); (with_reducible assumption); lcg_src; kpt_turns)
  | ((with_reducible apply Frm.tup); (with_reducible assumption); lcg_src; kpt_turns)
  | ((with_reducible apply Frm2.seq); (with_reducible assumption); lcg_src; lcg_src; kpt_turns)
  | ((with_reducible apply Frm2.tup); (with_reducible assumption); lcg_src; lcg_src; kpt_turns)
  | ((with_reducible apply L2.Same.seq); (with_reducible assumption); kpt_turns)
  | ((with_reducible apply Same.tup); (with_reducible assumption); kpt_turns)
  | assumption)
local macro_rules | `(tactic| k_memK) => `(tactic| first
  | with_reducible exact Frm.refl _
  | with_reducible assumption
  | ((with_reducible apply Frm.trN); (with_reducible assumption); k_memK)
  | ((with_reducible apply Frm.trU); k_memK)
  | ((with_reducible apply Frm.trM); (with_reducible assumption); k_memK)
  | ((with_reducible apply Frm.tr); (with_reducible assumption); k_memK)
  | ((with_reducible apply Frm.trS); (with_reducible assumption); k_memK)
  | with_reducible exact Frm2.refl _
  | ((with_reducible apply Frm2.trN); (with_reducible assumption); k_memK)
  | ((with_reducible apply Frm2.trU); k_memK)
  | ((with_reducible apply Frm2.trV); k_memK)
  | ((with_reducible apply Frm2.trM); (with_reducible assumption); k_memK)
  | ((with_reducible apply Frm2.tr); (with_reducible assumption); k_memK)
  | ((with_reducible apply Frm2.trS); (with_reducible assumption); k_memK))
local macro_rules | `(tactic| k_allIn) => `(tactic| first
  | with_reducible exact L2.Same.refl _
  | with_reducible assumption
  | ((with_reducible apply same_trN); (with_reducible assumption); k_allIn)
  | ((with_reducible apply same_trU); (with_reducible assumption); k_allIn)
  | ((with_reducible apply same_tr); (with_reducible assumption); k_allIn))
local macro_rules | `(tactic| k_ownIn) => `(tactic| first
  | with_reducible refine st_seq ?_
  | ((with_reducible refine' st_setF ?e ?_); (case e => intro x; (simp only [List.set_cons_zero, List.set_cons_succ]; exact rfl)))
  | with_reducible refine st_c ?_
  | ((with_reducible refine' st_var ?h ?_); (case h => exact rfl))
  | with_reducible refine st_op ?_
  | with_reducible refine st_I0 ?_
  | ((with_reducible refine' st_powL ?c ?e ?_); (case c => exact ⟨by decide, by decide, by decide⟩); (case e => (simp only [Int.reduceToNat, Int.reducePow]; exact rfl)))
  | ((with_reducible refine st_I ?h ?_); (case h => first | with_reducible assumption | (show (0 : Int) < _; omega) | exact ⟨by omega, by omega⟩ | exact .inl ⟨by omega, by omega⟩ | exact .inr ⟨by omega, by omega⟩ | exact ⟨by omega, by omega, by omega⟩))
  | with_reducible refine st_nil ?_
  | with_reducible refine st_cons ?_
  | with_reducible refine st_ret ?_
  | with_reducible refine st_call ?_
  | with_reducible refine st_cb ?_
  | with_reducible refine st_exb ?_
  | ((with_reducible refine' st_ixL ?h1 ?h2 ?_); (case h1 => kpt_turns); (case h2 => first | ((with_reducible apply at0); exact rfl) | ((with_reducible apply at1); exact rfl) | ((with_reducible apply at2); exact rfl) | ((with_reducible apply at3); exact rfl) | with_reducible assumption))
  | ((with_reducible refine' st_ixT ?h1 ?h2 ?_); (case h1 => kpt_turns); (case h2 => first | ((with_reducible apply at0); exact rfl) | ((with_reducible apply at1); exact rfl) | ((with_reducible apply at2); exact rfl) | with_reducible assumption))
  | ((with_reducible refine' st_ixP ?h1 ?h2 ?h3 ?h4 ?_); (case h1 => kpt_turns); (case h2 => (repeat constructor)); (case h3 => omega); (case h4 => (simp; omega)))
  | ((with_reducible refine' st_ixPT ?h1 ?h2 ?h3 ?h4 ?_); (case h1 => kpt_turns); (case h2 => (repeat constructor)); (case h3 => omega); (case h4 => (simp; omega)))
  | with_reducible refine st_tB ?_
  | with_reducible refine st_test ?_
  | with_reducible refine st_and ?_
  | with_reducible refine st_or ?_
  | with_reducible refine st_not ?_
  | with_reducible refine st_andV ?_
  | with_reducible refine st_orV ?_
  | with_reducible refine st_notV ?_
  | with_reducible refine st_chain ?_
  | with_reducible refine st_iT ?_
  | with_reducible refine st_iF ?_
  | with_reducible refine st_iNT ?_
  | with_reducible refine st_iNF ?_
  | with_reducible refine st_iRf ?_
  | with_reducible refine st_iNRf ?_
  | with_reducible refine st_asg ?_
  | ((with_reducible refine' st_parF ?e ?_); (case e => intro x y; (simp only [List.set_cons_zero, List.set_cons_succ]; exact rfl)))
  | with_reducible refine st_par2 ?_
  | with_reducible refine st_fst ?_
  | with_reducible refine st_jsE ?_
  | with_reducible refine st_js ?_
  | with_reducible refine st_fmt ?_
  | with_reducible refine st_joinK ?_
  | with_reducible refine st_strx ?_
  | ((with_reducible refine' st_par3F ?e ?_); (case e => intro x y z; (simp only [List.set_cons_zero, List.set_cons_succ]; exact rfl)))
  | with_reducible refine st_par3 ?_
  | ((with_reducible refine' st_augF ?h ?e ?_); (case h => exact rfl); (case e => intro x; (simp only [List.set_cons_zero, List.set_cons_succ]; exact rfl)))
  | with_reducible refine st_ipI ?_
  | with_reducible refine st_drop ?_
  | with_reducible refine st_next ?_
  | with_reducible refine st_un ?_
  | with_reducible refine st_U ?_
  | ((with_reducible refine' st_gNF ?e ?_); (case e => (simp only [List.set_cons_zero, List.set_cons_succ]; exact rfl)))
  | with_reducible refine st_gN ?_
  | ((with_reducible refine' st_gT ?h1 ?h2 ?_); (case h1 => kpt_turns); (case h2 => exact rfl))
  | with_reducible refine st_gC ?_
  | with_reducible refine st_gE ?_
  | with_reducible refine st_gS ?_
  | ((with_reducible refine' st_setL ?h1 ?h2 ?_); (case h1 => lcg_off); (case h2 => exact rfl))
  | with_reducible refine st_lst ?_
  | with_reducible refine st_tup ?_
  | ((with_reducible refine st_new ?h ?_); (case h => (simp; done)))
  | with_reducible refine st_callN ?_
  | with_reducible refine st_bm ?_
  | with_reducible refine st_bm0 ?_
  | ((with_reducible refine' st_tyL ?h ?_); (case h => kpt_turns))
  | ((with_reducible refine st_eq ?h ?_); (case h => exact rfl))
  | ((with_reducible refine st_ne ?h ?_); (case h => exact rfl))
  | with_reducible refine st_i1 ?_
  | with_reducible refine st_i2 ?_
  | with_reducible refine st_int ?_
  | with_reducible refine st_intb ?_
  | ((with_reducible refine' st_lenQ ?h ?_); (case h => kpt_turns))
  | ((with_reducible refine' st_lenQT ?h ?_); (case h => kpt_turns))
  | with_reducible refine st_yes ?_
  | with_reducible refine st_brk ?_
  | with_reducible refine st_cont ?_
  | with_reducible refine st_retN ?_
  | with_reducible refine st_forI ?_
  | with_reducible refine st_lcI ?_
  | with_reducible refine st_itL ?_
  | with_reducible refine st_itT ?_
  | with_reducible refine st_rng1 ?_
  | with_reducible refine st_rng2 ?_
  | with_reducible refine st_ref ?_
  | with_reducible refine st_sl ?_
  | with_reducible refine st_pN ?_
  | with_reducible refine st_pS ?_
  | with_reducible refine st_pI ?_
  | (refine ⟨rfl, ?_⟩))
local macro_rules | `(tactic| cell_call) => `(tactic| first
  | with_reducible refine st_seq ?_
  | ((with_reducible refine' st_setF ?e ?_); (case e => intro x; (simp only [List.set_cons_zero, List.set_cons_succ]; exact rfl)))
  | with_reducible refine st_c ?_
  | ((with_reducible refine' st_var ?h ?_); (case h => exact rfl))
  | with_reducible refine st_op ?_
  | with_reducible refine st_I0 ?_
  | ((with_reducible refine' st_powL ?c ?e ?_); (case c => exact ⟨by decide, by decide, by decide⟩); (case e => (simp only [Int.reduceToNat, Int.reducePow]; exact rfl)))
  | ((with_reducible refine st_I ?h ?_); (case h => first | with_reducible assumption | (show (0 : Int) < _; omega) | exact ⟨by omega, by omega⟩ | exact .inl ⟨by omega, by omega⟩ | exact .inr ⟨by omega, by omega⟩ | exact ⟨by omega, by omega, by omega⟩))
  | with_reducible refine st_nil ?_
  | with_reducible refine st_cons ?_
  | with_reducible refine st_ret ?_
  | with_reducible refine st_call ?_
  | with_reducible refine st_cb ?_
  | with_reducible refine st_exb ?_
  | ((with_reducible refine' st_ixL ?h1 ?h2 ?_); (case h1 => kpt_turns); (case h2 => first | ((with_reducible apply at0); exact rfl) | ((with_reducible apply at1); exact rfl) | ((with_reducible apply at2); exact rfl) | ((with_reducible apply at3); exact rfl) | with_reducible assumption))
  | ((with_reducible refine' st_ixT ?h1 ?h2 ?_); (case h1 => kpt_turns); (case h2 => first | ((with_reducible apply at0); exact rfl) | ((with_reducible apply at1); exact rfl) | ((with_reducible apply at2); exact rfl) | with_reducible assumption))
  | ((with_reducible refine' st_ixP ?h1 ?h2 ?h3 ?h4 ?_); (case h1 => kpt_turns); (case h2 => (repeat constructor)); (case h3 => omega); (case h4 => (simp; omega)))
  | ((with_reducible refine' st_ixPT ?h1 ?h2 ?h3 ?h4 ?_); (case h1 => kpt_turns); (case h2 => (repeat constructor)); (case h3 => omega); (case h4 => (simp; omega)))
  | with_reducible refine st_tB ?_
  | with_reducible refine st_test ?_
  | with_reducible refine st_and ?_
  | with_reducible refine st_or ?_
  | with_reducible refine st_not ?_
  | with_reducible refine st_andV ?_
  | with_reducible refine st_orV ?_
  | with_reducible refine st_notV ?_
  | with_reducible refine st_chain ?_
  | with_reducible refine st_iT ?_
  | with_reducible refine st_iF ?_
  | with_reducible refine st_iNT ?_
  | with_reducible refine st_iNF ?_
  | with_reducible refine st_iRf ?_
  | with_reducible refine st_iNRf ?_
  | with_reducible refine st_asg ?_
  | ((with_reducible refine' st_parF ?e ?_); (case e => intro x y; (simp only [List.set_cons_zero, List.set_cons_succ]; exact rfl)))
  | with_reducible refine st_par2 ?_
  | with_reducible refine st_fst ?_
  | with_reducible refine st_jsE ?_
  | with_reducible refine st_js ?_
  | with_reducible refine st_fmt ?_
  | with_reducible refine st_joinK ?_
  | with_reducible refine st_strx ?_
  | ((with_reducible refine' st_par3F ?e ?_); (case e => intro x y z; (simp only [List.set_cons_zero, List.set_cons_succ]; exact rfl)))
  | with_reducible refine st_par3 ?_
  | ((with_reducible refine' st_augF ?h ?e ?_); (case h => exact rfl); (case e => intro x; (simp only [List.set_cons_zero, List.set_cons_succ]; exact rfl)))
  | with_reducible refine st_ipI ?_
  | with_reducible refine st_drop ?_
  | with_reducible refine st_next ?_
  | with_reducible refine st_un ?_
  | with_reducible refine st_U ?_
  | ((with_reducible refine' st_gNF ?e ?_); (case e => (simp only [List.set_cons_zero, List.set_cons_succ]; exact rfl)))
  | with_reducible refine st_gN ?_
  | ((with_reducible refine' st_gT ?h1 ?h2 ?_); (case h1 => kpt_turns); (case h2 => exact rfl))
  | with_reducible refine st_gC ?_
  | with_reducible refine st_gE ?_
  | with_reducible refine st_gS ?_
  | ((with_reducible refine' st_setL ?h1 ?h2 ?_); (case h1 => lcg_off); (case h2 => exact rfl))
  | with_reducible refine st_lst ?_
  | with_reducible refine st_tup ?_
  | ((with_reducible refine st_new ?h ?_); (case h => (simp; done)))
  | with_reducible refine st_callN ?_
  | with_reducible refine st_bm ?_
  | with_reducible refine st_bm0 ?_
  | ((with_reducible refine' st_tyL ?h ?_); (case h => kpt_turns))
  | ((with_reducible refine st_eq ?h ?_); (case h => exact rfl))
  | ((with_reducible refine st_ne ?h ?_); (case h => exact rfl))
  | with_reducible refine st_i1 ?_
  | with_reducible refine st_i2 ?_
  | with_reducible refine st_int ?_
  | with_reducible refine st_intb ?_
  | ((with_reducible refine' st_lenQ ?h ?_); (case h => kpt_turns))
  | ((with_reducible refine' st_lenQT ?h ?_); (case h => kpt_turns))
  | with_reducible refine st_yes ?_
  | with_reducible refine st_brk ?_
  | with_reducible refine st_cont ?_
  | with_reducible refine st_retN ?_
  | with_reducible refine st_forI ?_
  | with_reducible refine st_lcI ?_
  | with_reducible refine st_itL ?_
  | with_reducible refine st_itT ?_
  | with_reducible refine st_rng1 ?_
  | with_reducible refine st_rng2 ?_
  | with_reducible refine st_ref ?_
  | with_reducible refine st_sl ?_
  | with_reducible refine st_pN ?_
  | with_reducible refine st_pS ?_
  | with_reducible refine st_pI ?_
  | (refine ⟨rfl, ?_⟩)
  | with_reducible refine st_ifE ?_
  | with_reducible refine st_ifS ?_)
local macro_rules | `(tactic| kpf_close) => `(tactic| first
  | cell_call
  | refine st_iD (fun _ => ?_) (fun _ => ?_)
  | refine st_iND (fun _ => ?_) (fun _ => ?_)
  | refine st_iNB (fun _ => ?_) (fun _ => ?_)
  | refine st_iB (fun _ => ?_) (fun _ => ?_))
local macro_rules | `(tactic| k_places) => `(tactic| first
  | with_reducible refine isi_non_bool ?_
  | with_reducible refine isi_non_int ?_
  | with_reducible refine isi_non_str ?_
  | with_reducible refine isi_non_list ?_
  | with_reducible refine isi_non_tuple ?_
  | with_reducible refine isi_bl_bool ?_
  | with_reducible refine isi_bl_int ?_
  | with_reducible refine isi_bl_str ?_
  | with_reducible refine isi_bl_list ?_
  | with_reducible refine isi_bl_tuple ?_
  | with_reducible refine isi_int_bool ?_
  | with_reducible refine isi_int_int ?_
  | with_reducible refine isi_int_str ?_
  | with_reducible refine isi_int_list ?_
  | with_reducible refine isi_int_tuple ?_
  | with_reducible refine isi_str_bool ?_
  | with_reducible refine isi_str_int ?_
  | with_reducible refine isi_str_str ?_
  | with_reducible refine isi_str_list ?_
  | with_reducible refine isi_str_tuple ?_
  | ((with_reducible refine' isi_list_bool ?h ?_); (case h => kpt_turns))
  | ((with_reducible refine' isi_list_int ?h ?_); (case h => kpt_turns))
  | ((with_reducible refine' isi_list_str ?h ?_); (case h => kpt_turns))
  | ((with_reducible refine' isi_list_list ?h ?_); (case h => kpt_turns))
  | ((with_reducible refine' isi_list_tuple ?h ?_); (case h => kpt_turns))
  | ((with_reducible refine' isi_tuple_bool ?h ?_); (case h => kpt_turns))
  | ((with_reducible refine' isi_tuple_int ?h ?_); (case h => kpt_turns))
  | ((with_reducible refine' isi_tuple_str ?h ?_); (case h => kpt_turns))
  | ((with_reducible refine' isi_tuple_list ?h ?_); (case h => kpt_turns))
  | ((with_reducible refine' isi_tuple_tuple ?h ?_); (case h => kpt_turns)))
local macro_rules | `(tactic| cell_call) => `(tactic| first
  | with_reducible refine st_zip ?_)
local macro_rules | `(tactic| k_ownIn) => `(tactic| first
  | with_reducible refine st_zip ?_)
local macro_rules | `(tactic| cell_call) => `(tactic| first
  | with_reducible refine st_veI ?_
  | with_reducible refine st_ost ?_
  | with_reducible refine st_mko ?_
  | with_reducible refine st_xv ?_
  | with_reducible refine st_lrg ?_
  | with_reducible refine st_callS ?_
  | with_reducible refine st_rg2 ?_
  | with_reducible refine st_rgE ?_)
local macro_rules | `(tactic| k_ownIn) => `(tactic| first
  | with_reducible refine st_veI ?_
  | with_reducible refine st_ost ?_
  | with_reducible refine st_mko ?_
  | with_reducible refine st_xv ?_
  | with_reducible refine st_lrg ?_
  | with_reducible refine st_callS ?_
  | with_reducible refine st_rg2 ?_
  | with_reducible refine st_rgE ?_)
local macro_rules | `(tactic| cell_call) => `(tactic| first
  | with_reducible refine st_inC ?_
  | with_reducible refine st_itS ?_
  | with_reducible refine st_itS1 ?_)
local macro_rules | `(tactic| k_ownIn) => `(tactic| first
  | with_reducible refine st_inC ?_
  | with_reducible refine st_itS ?_
  | with_reducible refine st_itS1 ?_)
local macro_rules | `(tactic| cell_call) => `(tactic| first
  | with_reducible refine st_notInC ?_
  | with_reducible refine st_turnS ?_
  | with_reducible refine st_callT ?_)
local macro_rules | `(tactic| k_ownIn) => `(tactic| first
  | with_reducible refine st_notInC ?_
  | with_reducible refine st_turnS ?_
  | with_reducible refine st_callT ?_)
section
variable {P : Program} {w : World} {K : PySem.W.Frag} {mg : Str → Option Value} {base : Heap}
def sp_law (K : PySem.W.Frag) : Sp := fun vs H Q _ => ∃ (A : Addr) (ns : List Int), vs = [.ref A] ∧ SqL K H A (ns.map V.int) ∧ ns.length ≤ 63 ∧ ∀ H', Q (.bl true) H'
/-- a list of texts -/
def IsT (xs : List V) : Prop := ∀ x ∈ xs, ∃ u, x = .str u ∧ TkO 7500 u
theorem IsT.nil : IsT [] := fun x hx => by cases hx
theorem IsT.cons {u : Str} {n : Nat} {xs : List V} (hu : TkO n u) (hn : n ≤ 7500) (h : IsT xs) : IsT (.str u :: xs) := fun x hx => by
  rcases List.mem_cons.mp hx with rfl | hx
  · exact ⟨u, rfl, hu.mono hn⟩
  · exact h x hx
theorem IsT.lit {s : String} {xs : List V} (hs : (Str.ofString s).length ≤ 60) (h : IsT xs) : IsT (.str (Str.ofString s) :: xs) := IsT.cons (TkO.lit hs) (by decide) h
theorem IsT.app {xs ys : List V} (h : IsT xs) (h2 : IsT ys) : IsT (xs ++ ys) := fun x hx => by
  rcases List.mem_append.mp hx with hx | hx
  · exact h x hx
  · exact h2 x hx
theorem IsT.at {xs : List V} {i : Int} (h : IsT xs) (h0 : 0 ≤ i) (h1 : i < xs.length) : ∃ u, atI xs i = some (.str u) ∧ TkO 7500 u := by
  have hl : i.toNat < xs.length := by omega
  have e := atI_nat (xs := xs) (j := i.toNat) (v := xs[i.toNat]) (List.getElem?_eq_getElem hl)
  rw [Int.toNat_of_nonneg h0] at e
  obtain ⟨u, hu, tu⟩ := h _ (List.getElem_mem hl)
  exact ⟨u, by rw [e, hu], tu⟩
theorem ok_law (T : Txt K mg) : FnOk P w K mg base CX0 9 (He.ga K "law") T.fd_law ["script"] (sp_law K) := by
  refine T.F_law.ok sc_law (fun vs H Q E h => ?_) (fun cdv A outer s H vs Q E hr h => ?_)
  · obtain ⟨A, ns, rfl, _⟩ := h
    rfl
  · obtain ⟨A, ns, rfl, hA, hl, q⟩ := h
    refine ⟨_, PSs.nox (pss_cons (ps_set (i := 1) sc_law.nd rfl (Or.inl rfl) (pe_call (ok_law_source T) (hr.mono (by decide)) rfl T.g_law_source T.F_law_source.kp (b_law_source T) .nil pass0 (pa_cons (pv 0) pa_nil)))
      (pss_cons (ps_for PassesOwn.never rfl (pi_range1 (by rfl) T.b_range (pa_cons (pe_op op_add pe_int (pe_callB (call_minI rfl) (by rfl) T.b_min (by decide +kernel) (pa_cons pe_int (pa_cons (pe_callB (show CallR _ _ (rLenQ K) from call_lenQ) (by rfl) T.b_len PySem.boot_len (pa_cons (pv 0) pa_nil)) pa_nil)))) pa_nil)) (pg_name (i := 2) sc_law.nd rfl (Or.inl rfl)) (pss_one (ps_for PassesOwn.never rfl (pi_range1 (by rfl) T.b_range (pa_cons pe_int pa_nil)) (pg_name (i := 3) sc_law.nd rfl (Or.inl rfl)) (pss_cons (ps_set (i := 4) sc_law.nd rfl (Or.inr rfl) (pe_call (ok_law_date T) (hr.mono (by decide)) rfl T.g_law_date T.F_law_date.kp (b_law_date T) .nil pass0 (pa_cons (pv 1) pa_nil)))
      (pss_cons (ps_set (i := 5) sc_law.nd rfl (Or.inl rfl) (pe_call (ok_law_text T) (hr.mono (by decide)) rfl T.g_law_text T.F_law_text.kp (b_law_text T) .nil pass0 (pa_cons (pv 4) pa_nil)))
      (pss_cons (ps_setLc (i := 6) (own := [("day", 9)]) (g := gName 9) (tt := tYes) rfl sc_law.nd rfl rfl (sw_true rfl rfl rfl (by decide +kernel)) (show PI _ _ _ (iList K _) from pi_list (pe_lst (pa_cons pe_int (pa_cons (pe_op op_add pe_int (pe_call (ok_law_draw T) (hr.mono (by decide)) rfl T.g_law_draw T.F_law_draw.kp (b_law_draw T) .nil pass0 (pa_cons (pv 1) (pa_cons pe_int pa_nil)))) pa_nil)))) (blkOk_by (N := N_law) (sc := defScope s_law) (by decide +kernel)) (fun _ _ _ _ _ => (pg_name (i := 9) sc_law.nd rfl (Or.inl rfl))) (fun _ _ _ _ _ => pts_nil) (fun _ _ _ _ _ => (pe_call (ok_law_text T) (hr.mono (by decide)) rfl T.g_law_text T.F_law_text.kp (b_law_text T) .nil pass0 (pa_cons (pe_tup (pa_cons (pe_ix (show IxR _ (rIxT K) from ix_tup) (pv 4) pe_int (fun _ _ => rfl)) (pa_cons (pe_ix (show IxR _ (rIxT K) from ix_tup) (pv 4) pe_int (fun _ _ => rfl)) (pa_cons (pv 9) pa_nil)))) pa_nil))))
      (pss_cons (ps_set (i := 7) sc_law.nd rfl (Or.inl rfl) (pe_lst (pa_cons (pe_op op_addS pe_str (pv 5)) (pa_cons pe_str (pa_cons (pe_op op_addS pe_str (pv 5)) (pa_cons (pe_op op_addS (pv 5) pe_str) (pa_cons (pe_op op_addS (pv 5) pe_str) (pa_cons (pe_op op_addS pe_str (pv 5)) (pa_cons pe_str (pa_cons pe_str (pa_cons pe_str (pa_cons pe_str pa_nil))))))))))))
      (pss_cons (ps_set (i := 7) sc_law.nd rfl (Or.inl rfl) (pe_op op_cat (pv 7) (pe_lst (pa_cons pe_str (pa_cons pe_str (pa_cons pe_str (pa_cons pe_str (pa_cons pe_str (pa_cons pe_str (pa_cons pe_str (pa_cons pe_str (pa_cons pe_str pa_nil))))))))))))
      (pss_cons (ps_set (i := 8) sc_law.nd rfl (Or.inl rfl) (pe_op op_cat (pv 6) (pe_lst (pa_cons (pe_ix (show IxR _ (rIxL K) from ix_list) (pv 7) (pe_call (ok_law_draw T) (hr.mono (by decide)) rfl T.g_law_draw T.F_law_draw.kp (b_law_draw T) .nil pass0 (pa_cons (pv 1) (pa_cons pe_int pa_nil))) (fun _ _ => rfl)) (pa_cons (pe_ix (show IxR _ (rIxL K) from ix_list) (pv 7) (pe_call (ok_law_draw T) (hr.mono (by decide)) rfl T.g_law_draw T.F_law_draw.kp (b_law_draw T) .nil pass0 (pa_cons (pv 1) (pa_cons pe_int pa_nil))) (fun _ _ => rfl)) (pa_cons (pe_call (ok_law_bent T) (hr.mono (by decide)) rfl T.g_law_bent T.F_law_bent.kp (b_law_bent T) .nil pass0 (pa_cons (pv 1) (pa_cons (pv 5) pa_nil))) pa_nil))))))
      (pss_cons (ps_set (i := 8) sc_law.nd rfl (Or.inl rfl) (pe_op op_cat (pv 8) (pe_lst (pa_cons (pe_call (ok_law_bent T) (hr.mono (by decide)) rfl T.g_law_bent T.F_law_bent.kp (b_law_bent T) .nil pass0 (pa_cons (pv 1) (pa_cons (pv 5) pa_nil))) (pa_cons (pe_op op_addS (pe_op op_addS (pe_op op_addS (pe_op op_addS (pe_callTy call_strI (by rfl) T.b_str (by decide +kernel) (pa_cons (pe_ix (show IxR _ (rIxT K) from ix_tup) (pv 4) pe_int (fun _ _ => rfl)) pa_nil)) pe_str) (pe_callTy call_strI (by rfl) T.b_str (by decide +kernel) (pa_cons (pe_ix (show IxR _ (rIxT K) from ix_tup) (pv 4) pe_int (fun _ _ => rfl)) pa_nil))) pe_str) (pe_callTy call_strI (by rfl) T.b_str (by decide +kernel) (pa_cons (pe_ix (show IxR _ (rIxT K) from ix_tup) (pv 4) pe_int (fun _ _ => rfl)) pa_nil))) pa_nil)))))
      (pss_cons (ps_set (i := 8) sc_law.nd rfl (Or.inl rfl) (pe_op op_cat (pv 8) (pe_lst (pa_cons (pe_op op_addS (pe_op op_addS (pe_ix (show IxR _ (rIxL K) from ix_list) (pe_lst (pa_cons pe_str (pa_cons pe_str pa_nil))) (pe_call (ok_law_draw T) (hr.mono (by decide)) rfl T.g_law_draw T.F_law_draw.kp (b_law_draw T) .nil pass0 (pa_cons (pv 1) (pa_cons pe_int pa_nil))) (fun _ _ => rfl)) (pe_op op_mulS pe_str (pe_op op_add pe_int (pe_call (ok_law_draw T) (hr.mono (by decide)) rfl T.g_law_draw T.F_law_draw.kp (b_law_draw T) .nil pass0 (pa_cons (pv 1) (pa_cons pe_int pa_nil)))))) pe_str) pa_nil))))
      (pss_one (ps_if (pt_cmpR (show OpR _ _ (rNeD K) from (op_neD hr.units)) (pe_lc (own := [("one", 10)]) (g := gName 10) rfl sc_law.nd (show PI _ _ _ (iList K _) from pi_list (pe_op op_cat (pe_lst (pa_cons (pv 5) pa_nil)) (pv 8))) (blkOk_by (N := N_law) (sc := defScope s_law) (by decide +kernel)) (fun _ _ _ _ _ => (pg_name (i := 10) sc_law.nd rfl (Or.inl rfl))) (fun _ _ _ _ _ => (pts_one (pt_not (pt_val (pe_call (ok_law_right T) (hr.mono (by decide)) rfl T.g_law_right T.F_law_right.kp (b_law_right T) .nil pass0 (pa_cons (pv 10) pa_nil)))))) (fun _ _ _ _ _ => (pv 10))) (pe_lst pa_nil) (nomark _)) (pss_one (ps_ret pe_bl)) pss_nil)))))))))))))
      (pss_cons (ps_if (PW.pt (pw_or (pt_not (pt_val (pe_call (ok_law_right T) (hr.mono (by decide)) rfl T.g_law_right T.F_law_right.kp (b_law_right T) .nil pass0 (pa_cons (pe_op op_addS (pe_op op_mulS pe_str pe_int) pe_str) pa_nil)))) (pw_or1 (pt_not (pt_val (pe_call (ok_law_right T) (hr.mono (by decide)) rfl T.g_law_right T.F_law_right.kp (b_law_right T) .nil pass0 (pa_cons (pe_op op_addS pe_str (pe_op op_mulS pe_str pe_int)) pa_nil))))))) (pss_one (ps_ret pe_bl)) pss_nil)
      (pss_one (ps_ret (pe_and (pe_call (ok_law_right T) (hr.mono (by decide)) rfl T.g_law_right T.F_law_right.kp (b_law_right T) .nil pass0 (pa_cons (pe_op op_addS (pe_op op_mulS pe_str pe_int) pe_str) pa_nil)) (pe_and (pe_call (ok_law_right T) (hr.mono (by decide)) rfl T.g_law_right T.F_law_right.kp (b_law_right T) .nil pass0 (pa_cons (pe_op op_addS (pe_op op_addS pe_str (pe_op op_mulS pe_str pe_int)) pe_str) pa_nil)) (pe_one (pe_call (ok_law_right T) (hr.mono (by decide)) rfl T.g_law_right T.F_law_right.kp (b_law_right T) .nil pass0 (pa_cons pe_str pa_nil)))))))))), ?_⟩
    rw [start_law]
    repeat cell_call
    refine ⟨A, ns, rfl, hA, hl, fun S D H0 nS nD F0 P0 => ?_⟩
    repeat cell_call
    have hA0 := F0.seq hA
    refine ⟨by omega, by omega, fR (fun i σ' H' => Same H H' ∧ SrcAt H' S D (10000 * i) ∧ ∃ k t b l d o s n m, σ' = [some (.ref A), some (.ref S), k, t, b, l, d, o, s, n, m]) ⟨F0, P0.mono (by omega), none, none, none, none, none, none, none, none, none, rfl⟩ (fun i σ1 H1 hi e => ?_) (fun σ1 H1 e => ?_)⟩
    · obtain ⟨sm, P1, k, t, b, l, d', o', s', n', m', rfl⟩ := e
      repeat cell_call
      refine ⟨by omega, by omega, fR (fun i2 σ' H' => Same H H' ∧ SrcAt H' S D (10000 * i + 1000 * i2) ∧ ∃ t b l d o s n m, σ' = [some (.ref A), some (.ref S), some (.int (0 + i)), t, b, l, d, o, s, n, m]) ⟨sm, P1.mono (by omega), t, b, l, d', o', s', n', m', rfl⟩ (fun i2 σ2 H2 hi2 e => ?_) (fun σ2 H2 e => ?_)⟩
      · clear sm P1
        obtain ⟨sm, P2, t, b, l, d', o', s', n', m', rfl⟩ := e
        have hj2 : i2 < 8 := hi2
        have hi1 : i < 11 := by omega
        have bi : (10000 * (i : Int) + 1000 * i2) ≤ 200000 := by omega
        generalize hc0 : (10000 * (i : Int) + 1000 * i2) = c0 at *
        repeat cell_call
        refine ⟨S, D, _, rfl, P2, by omega, fun B s0 H3 nB P3 F3 hB okd d0 d1 => ?_⟩
        have sm3 := Same.by2 sm nS nD F3
        unfold dT at hB
        have lb := lenN_bd s0.1
        have b1 : (s0.1 / 12).natAbs < 2 ^ 200 := by omega
        have b2 : (s0.1 % 12 + 1).natAbs < 2 ^ 200 := by omega
        have b3 : s0.2.natAbs < 2 ^ 200 := by have := okd.1; have := okd.2; omega
        clear F3 P2 sm nB okd lb d0 d1
        generalize s0.1 / 12 = y at *
        generalize s0.1 % 12 + 1 = m at *
        generalize s0.2 = dd at *
        repeat cell_call
        refine ⟨B, y, m, dd, rfl, SqT.of hB, b1, b2, b3, fun u tu => ?_⟩
        have ul := tu.le
        repeat cell_call
        refine ⟨S, D, _, _, rfl, P3, by omega, by decide, by decide, fun r4 H4 a4 b4 P4 F4 => ?_⟩
        have sm4 := Same.by2 sm3 nS nD F4
        have hB4 := P3.tk F4 _ _ hB
        clear F4 P3 sm3 hB
        repeat cell_call
        intro L1 n1
        have hB5 := hp_ne (o' := .lst [.int 0, .int (28 + r4)]) (ne_of_none hB4 n1) hB4
        have g1 : (upd H4 L1 (.lst [.int 0, .int (28 + r4)])) L1 = some (.lst [.int 0, .int (28 + r4)]) := upd_same
        have P5 := P4.new (o := .lst [.int 0, .int (28 + r4)]) n1
        have sm5 : Same H (upd H4 L1 (.lst [.int 0, .int (28 + r4)])) := same_trN n1 sm4
        generalize upd H4 L1 (.lst [.int 0, .int (28 + r4)]) = H5 at *
        clear n1 P4 sm4 hB4
        repeat cell_call
        refine ⟨⟨_, SqL.of g1⟩, fun C nC => ?_⟩
        refine lc_list (xs := [.int 0, .int (28 + r4)]) (fun i H' => Same H5 H' ∧ ∃ ts, H' C = some (.lst ts) ∧ ts.length = i ∧ IsT ts) ⟨Same.new nC, [], upd_same, rfl, IsT.nil⟩ (fun i H' _ e => e.1.seq (SqL.of g1)) (fun i x H' hx e => ?_) (fun H' e => ?_)
        · obtain ⟨smc, ts, hC, lt, tt⟩ := e
          have il := (List.getElem?_eq_some_iff.mp hx).1
          have key : ∃ k : Int, x = .int k ∧ k.natAbs < 2 ^ 200 := by
            have hx2 := List.mem_of_getElem? hx
            simp only [List.mem_cons, List.not_mem_nil, or_false] at hx2
            rcases hx2 with rfl | rfl
            · exact ⟨0, rfl, by decide⟩
            · exact ⟨28 + r4, rfl, by omega⟩
          obtain ⟨k, rfl, hk⟩ := key
          have hB6 := smc _ _ hB5
          have il2 : i < 2 := il
          repeat cell_call
          intro t nt
          repeat cell_call
          refine ⟨t, y, m, k, rfl, SqT.of upd_same, b1, b2, hk, fun w tw => ?_⟩
          refine ⟨ts, hp_ne (ne_of_none hC nt) hC, len_lt (by omega), same_trU nC (same_trN nt smc), ts ++ [.str w], upd_same, by rw [List.length_append, lt]; rfl, IsT.app tt (IsT.cons tw (by decide) IsT.nil)⟩
        · obtain ⟨smc, ts, hC, lt, tt⟩ := e
          have lts : ts.length = 2 := lt
          have tts := tt
          have eCS := P5.neS nC
          have eCD := P5.neD nC
          clear lt tt
          have hB6 := smc _ _ hB5
          have P6 := P5.same smc
          have sm6 := same_tr smc sm5
          clear smc g1 P5 sm5 hB5
          have k0 : (Str.ofString "0").length = 1 := rfl
          have k1 : (Str.ofString "+").length = 1 := rfl
          have k2 : (Str.ofString "/1").length = 2 := rfl
          have k3 : (Str.ofString " ").length = 1 := rfl
          have t0 : TkO 1 (Str.ofString "0") := TkO.lit (Nat.le_refl 1)
          have t1 : TkO 1 (Str.ofString "+") := TkO.lit (Nat.le_refl 1)
          have t2 : TkO 2 (Str.ofString "/1") := TkO.lit (Nat.le_refl 2)
          have t3 : TkO 1 (Str.ofString " ") := TkO.lit (Nat.le_refl 1)
          repeat (first | cell_call | with_reducible refine st_addS (by omega) ?_)
          have tX1 : IsT [.str (("0" : Str) ++ u), .str "-0/1/1", .str (("+" : Str) ++ u), .str (u ++ ("/1" : Str)), .str (u ++ (" " : Str)), .str ((" " : Str) ++ u), .str "", .str "none", .str "/", .str "1/1"] := IsT.cons (t0.app tu) (by decide) (IsT.lit (by decide +kernel) (IsT.cons (t1.app tu) (by decide) (IsT.cons (tu.app t2) (by decide) (IsT.cons (tu.app t3) (by decide) (IsT.cons (t3.app tu) (by decide) (IsT.lit (by decide +kernel) (IsT.lit (by decide +kernel) (IsT.lit (by decide +kernel) (IsT.lit (by decide +kernel) IsT.nil)))))))))
          have lX1 : ([.str (("0" : Str) ++ u), .str "-0/1/1", .str (("+" : Str) ++ u), .str (u ++ ("/1" : Str)), .str (u ++ (" " : Str)), .str ((" " : Str) ++ u), .str "", .str "none", .str "/", .str "1/1"] : List V).length = 10 := rfl
          generalize ([.str (("0" : Str) ++ u), .str "-0/1/1", .str (("+" : Str) ++ u), .str (u ++ ("/1" : Str)), .str (u ++ (" " : Str)), .str ((" " : Str) ++ u), .str "", .str "none", .str "/", .str "1/1"] : List V) = X1 at *
          intro L2 n2
          have hC2 := hp_ne (o' := .lst X1) (ne_of_none hC n2) hC
          have hB7 := hp_ne (o' := .lst X1) (ne_of_none hB6 n2) hB6
          have g2 : (upd H' L2 (.lst X1)) L2 = some (.lst X1) := upd_same
          have P7 := P6.new (o := .lst X1) n2
          have sm7 : Same H (upd H' L2 (.lst X1)) := same_trN n2 sm6
          generalize upd H' L2 (.lst X1) = H6 at *
          clear n2 P6 sm6 hC hB6
          repeat cell_call
          have tX2 : IsT [.str "1//1", .str "1/01/1", .str "1/1/01", .str "0/1/1", .str "1/13/1", .str "1/0/1", .str "-4/2/29", .str "-100/2/29", .str "1/-1/1"] := IsT.lit (by decide +kernel) (IsT.lit (by decide +kernel) (IsT.lit (by decide +kernel) (IsT.lit (by decide +kernel) (IsT.lit (by decide +kernel) (IsT.lit (by decide +kernel) (IsT.lit (by decide +kernel) (IsT.lit (by decide +kernel) (IsT.lit (by decide +kernel) (IsT.nil)))))))))
          have lX2 : ([.str "1//1", .str "1/01/1", .str "1/1/01", .str "0/1/1", .str "1/13/1", .str "1/0/1", .str "-4/2/29", .str "-100/2/29", .str "1/-1/1"] : List V).length = 9 := rfl
          generalize ([.str "1//1", .str "1/01/1", .str "1/1/01", .str "0/1/1", .str "1/13/1", .str "1/0/1", .str "-4/2/29", .str "-100/2/29", .str "1/-1/1"] : List V) = X2 at *
          intro L3 n3
          have hC3 := hp_ne (o' := .lst X2) (ne_of_none hC2 n3) hC2
          have hB8 := hp_ne (o' := .lst X2) (ne_of_none hB7 n3) hB7
          have g2b := hp_ne (o' := .lst X2) (ne_of_none g2 n3) g2
          have g3 : (upd H6 L3 (.lst X2)) L3 = some (.lst X2) := upd_same
          have P8 := P7.new (o := .lst X2) n3
          have sm8 : Same H (upd H6 L3 (.lst X2)) := same_trN n3 sm7
          generalize upd H6 L3 (.lst X2) = H7 at *
          clear n3 P7 sm7 hC2 hB7 g2
          refine st_cat g2b g3 (by rw [lX1, lX2]; decide) fun L4 n4 => ?_
          have e4 := P8.neS n4
          have f4 := P8.neD n4
          have hC4 := hp_ne (o' := .lst (X1 ++ X2)) (ne_of_none hC3 n4) hC3
          have hB9 := hp_ne (o' := .lst (X1 ++ X2)) (ne_of_none hB8 n4) hB8
          have g4 : (upd H7 L4 (.lst (X1 ++ X2))) L4 = some (.lst (X1 ++ X2)) := upd_same
          have P9 := P8.new (o := .lst (X1 ++ X2)) n4
          have sm9 : Same H (upd H7 L4 (.lst (X1 ++ X2))) := same_trN n4 sm8
          generalize upd H7 L4 (.lst (X1 ++ X2)) = H8 at *
          clear n4 P8 sm8 g2b g3 hC3 hB8
          have tO := tX1.app tX2
          have lO : (X1 ++ X2).length = 19 := by rw [List.length_append, lX1, lX2]
          generalize X1 ++ X2 = O at *
          clear tX1 tX2 lX1 lX2 t0 t1 t2 t3 k0 k1 k2 k3 L2 L3 X1 X2
          repeat cell_call
          refine ⟨S, D, _, _, rfl, P9, by omega, by decide, by decide, fun q10 H9 a10 b10 P10 F10 => ?_⟩
          have g5 := F10 _ _ e4 f4 g4
          have hC5 := F10 _ _ eCS eCD hC4
          have hB10 := P9.tk F10 _ _ hB9
          have sm10 := Same.by2 sm9 nS nD F10
          clear F10 P9 sm9 g4 hC4 hB9
          obtain ⟨o1, at1, to1⟩ := tO.at a10 (by omega)
          repeat cell_call
          refine ⟨S, D, _, _, rfl, P10, by omega, by decide, by decide, fun q11 H10 a11 b11 P11 F11 => ?_⟩
          have g6 := F11 _ _ e4 f4 g5
          have hC6 := F11 _ _ eCS eCD hC5
          have hB11 := P10.tk F11 _ _ hB10
          have sm11 := Same.by2 sm10 nS nD F11
          clear F11 P10 sm10 g5 hC5 hB10
          obtain ⟨o2, at2, to2⟩ := tO.at a11 (by omega)
          repeat cell_call
          clear g6 at1 at2 tO lO e4 f4 b10 b11 a10 a11
          refine ⟨S, D, u, _, rfl, P11, by omega, tu.mono (by decide), fun v12 H11 tv12 P12 F12 => ?_⟩
          have hC7 := F12 _ _ eCS eCD hC6
          have hB12 := P11.tk F12 _ _ hB11
          have sm12 := Same.by2 sm11 nS nD F12
          clear F12 P11 sm11 hC6 hB11
          repeat cell_call
          have tY1 : IsT [.str o1, .str o2, .str v12] := IsT.cons to1 (by decide) (IsT.cons to2 (by decide) (IsT.cons tv12 (by decide) IsT.nil))
          have lY1 : ([.str o1, .str o2, .str v12] : List V).length = 3 := rfl
          generalize ([.str o1, .str o2, .str v12] : List V) = Y1 at *
          intro M1 j1
          have hC8 := hp_ne (o' := .lst Y1) (ne_of_none hC7 j1) hC7
          have hB13 := hp_ne (o' := .lst Y1) (ne_of_none hB12 j1) hB12
          have u1 : (upd H11 M1 (.lst Y1)) M1 = some (.lst Y1) := upd_same
          have P13 := P12.new (o := .lst Y1) j1
          have sm13 : Same H (upd H11 M1 (.lst Y1)) := same_trN j1 sm12
          generalize upd H11 M1 (.lst Y1) = H12 at *
          clear j1 P12 sm12 hC7 hB12
          refine st_cat hC8 u1 (by rw [lts, lY1]; decide) fun M2 j2 => ?_
          have x2 := P13.neS j2
          have z2 := P13.neD j2
          have hB14 := hp_ne (o' := .lst (ts ++ Y1)) (ne_of_none hB13 j2) hB13
          have u2 : (upd H12 M2 (.lst (ts ++ Y1))) M2 = some (.lst (ts ++ Y1)) := upd_same
          have P14 := P13.new (o := .lst (ts ++ Y1)) j2
          have sm14 : Same H (upd H12 M2 (.lst (ts ++ Y1))) := same_trN j2 sm13
          generalize upd H12 M2 (.lst (ts ++ Y1)) = H13 at *
          clear j2 P13 sm13 hC8 u1 hB13
          have tZ1 := tts.app tY1
          have lZ1 : (ts ++ Y1).length = 5 := by rw [List.length_append, lts, lY1]
          generalize ts ++ Y1 = Z1 at *
          clear tts tY1 lts lY1
          clear eCS eCD to1 to2 tv12
          repeat cell_call
          refine ⟨S, D, u, _, rfl, P14, by omega, tu.mono (by decide), fun v13 H14 tv13 P15 F13 => ?_⟩
          have u3 := F13 _ _ x2 z2 u2
          have hB15 := P14.tk F13 _ _ hB14
          have sm15 := Same.by2 sm14 nS nD F13
          clear F13 P14 sm14 u2 hB14
          repeat cell_call
          have s1 := TkO.num b1
          have s2 := TkO.num b2
          have s3 := TkO.num b3
          have n1 := s1.le
          have n2 := s2.le
          have n3 := s3.le
          have k4 : (Str.ofString "/").length = 1 := rfl
          have t4 : TkO 1 (Str.ofString "/") := TkO.lit (Nat.le_refl 1)
          repeat (first | cell_call | with_reducible refine st_strI b2 ?_ | with_reducible refine st_strI b3 ?_ | with_reducible refine st_strI b1 ?_ | with_reducible refine st_addS (by (try simp only [PySem.Str.length_append]); omega) ?_)
          have tY2 : IsT [.str v13, .str (iT m ++ ("/" : Str) ++ iT dd ++ ("/" : Str) ++ iT y)] := IsT.cons tv13 (by decide) (IsT.cons ((((s2.app t4).app s3).app t4).app s1) (by decide) IsT.nil)
          have lY2 : ([.str v13, .str (iT m ++ ("/" : Str) ++ iT dd ++ ("/" : Str) ++ iT y)] : List V).length = 2 := rfl
          generalize ([.str v13, .str (iT m ++ ("/" : Str) ++ iT dd ++ ("/" : Str) ++ iT y)] : List V) = Y2 at *
          intro M3 j3
          have u4 := hp_ne (o' := .lst Y2) (ne_of_none u3 j3) u3
          have hB16 := hp_ne (o' := .lst Y2) (ne_of_none hB15 j3) hB15
          have u5 : (upd H14 M3 (.lst Y2)) M3 = some (.lst Y2) := upd_same
          have P16 := P15.new (o := .lst Y2) j3
          have sm16 : Same H (upd H14 M3 (.lst Y2)) := same_trN j3 sm15
          generalize upd H14 M3 (.lst Y2) = H15 at *
          clear j3 P15 sm15 u3 hB15
          refine st_cat u4 u5 (by rw [lZ1, lY2]; decide) fun M4 j4 => ?_
          have x4 := P16.neS j4
          have z4 := P16.neD j4
          have hB17 := hp_ne (o' := .lst (Z1 ++ Y2)) (ne_of_none hB16 j4) hB16
          have u6 : (upd H15 M4 (.lst (Z1 ++ Y2))) M4 = some (.lst (Z1 ++ Y2)) := upd_same
          have P17 := P16.new (o := .lst (Z1 ++ Y2)) j4
          have sm17 : Same H (upd H15 M4 (.lst (Z1 ++ Y2))) := same_trN j4 sm16
          generalize upd H15 M4 (.lst (Z1 ++ Y2)) = H16 at *
          clear j4 P16 sm16 u4 u5 hB16
          have tZ2 := tZ1.app tY2
          have lZ2 : (Z1 ++ Y2).length = 7 := by rw [List.length_append, lZ1, lY2]
          generalize Z1 ++ Y2 = Z2 at *
          clear tZ1 tY2 lZ1 lY2
          clear s1 s2 s3 n1 n2 n3 k4 t4 tv13 x2 z2
          repeat cell_call
          intro M5 j5
          have x5 := P17.neS j5
          have z5 := P17.neD j5
          have u7 := hp_ne (o' := .lst [.str "", .str "-"]) (ne_of_none u6 j5) u6
          have hB18 := hp_ne (o' := .lst [.str "", .str "-"]) (ne_of_none hB17 j5) hB17
          have u8 : (upd H16 M5 (.lst [.str "", .str "-"])) M5 = some (.lst [.str "", .str "-"]) := upd_same
          have P18 := P17.new (o := .lst [.str "", .str "-"]) j5
          have sm18 : Same H (upd H16 M5 (.lst [.str "", .str "-"])) := same_trN j5 sm17
          generalize upd H16 M5 (.lst [.str "", .str "-"]) = H17 at *
          clear j5 P17 sm17 u6 hB17
          repeat cell_call
          refine ⟨S, D, _, _, rfl, P18, by omega, by decide, by decide, fun q14 H18 a14 b14 P19 F14 => ?_⟩
          have u9 := F14 _ _ x4 z4 u7
          have u10 := F14 _ _ x5 z5 u8
          have hB19 := P18.tk F14 _ _ hB18
          have sm19 := Same.by2 sm18 nS nD F14
          clear F14 P18 sm18 u7 u8 hB18
          have tP : IsT [.str "", .str "-"] := IsT.lit (by decide +kernel) (IsT.lit (by decide +kernel) IsT.nil)
          have key : ∃ g, atI ([.str "", .str "-"] : List V) q14 = some (.str g) ∧ TkO 1 g := by
            have h : q14 = 0 ∨ q14 = 1 := by omega
            rcases h with rfl | rfl
            · exact ⟨_, rfl, TkO.lit (by decide +kernel)⟩
            · exact ⟨_, rfl, TkO.lit (by decide +kernel)⟩
          obtain ⟨g, atg, tg⟩ := key
          have gl := tg.le
          repeat cell_call
          clear u10 x5 z5 tP atg
          refine ⟨S, D, _, _, rfl, P19, by omega, by decide, by decide, fun q15 H19 a15 b15 P20 F15 => ?_⟩
          have u11 := F15 _ _ x4 z4 u9
          have hB20 := P19.tk F15 _ _ hB19
          have sm20 := Same.by2 sm19 nS nD F15
          clear F15 P19 sm19 u9 hB19
          repeat cell_call
          refine st_mulS (by omega) (by omega) (by decide +kernel) fun w hw => ?_
          have tw : TkO 100 w := (hw.tk (TkO.lit (Nat.le_refl _))).mono (by have e : (Str.ofString "9").length = 1 := rfl; rw [e]; omega)
          have wl := tw.le
          have k5 : (Str.ofString "/12/31").length = 6 := rfl
          have t5 : TkO 6 (Str.ofString "/12/31") := TkO.lit (Nat.le_refl 6)
          repeat (first | cell_call | with_reducible refine st_addS (by (try simp only [PySem.Str.length_append]); omega) ?_)
          have tY3 : IsT [.str (g ++ w ++ ("/12/31" : Str))] := IsT.cons ((tg.app tw).app t5) (by decide) IsT.nil
          have lY3 : ([.str (g ++ w ++ ("/12/31" : Str))] : List V).length = 1 := rfl
          generalize ([.str (g ++ w ++ ("/12/31" : Str))] : List V) = Y3 at *
          intro M6 j6
          have u12 := hp_ne (o' := .lst Y3) (ne_of_none u11 j6) u11
          have hB21 := hp_ne (o' := .lst Y3) (ne_of_none hB20 j6) hB20
          have u13 : (upd H19 M6 (.lst Y3)) M6 = some (.lst Y3) := upd_same
          have P21 := P20.new (o := .lst Y3) j6
          have sm21 : Same H (upd H19 M6 (.lst Y3)) := same_trN j6 sm20
          generalize upd H19 M6 (.lst Y3) = H20 at *
          clear j6 P20 sm20 u11 hB20
          refine st_cat u12 u13 (by rw [lZ2, lY3]; decide) fun M7 j7 => ?_
          have hB22 := hp_ne (o' := .lst (Z2 ++ Y3)) (ne_of_none hB21 j7) hB21
          have u14 : (upd H20 M7 (.lst (Z2 ++ Y3))) M7 = some (.lst (Z2 ++ Y3)) := upd_same
          have P22 := P21.new (o := .lst (Z2 ++ Y3)) j7
          have sm22 : Same H (upd H20 M7 (.lst (Z2 ++ Y3))) := same_trN j7 sm21
          generalize upd H20 M7 (.lst (Z2 ++ Y3)) = H21 at *
          clear j7 P21 sm21 u12 u13 hB21
          have tZ3 := tZ2.app tY3
          have lZ3 : (Z2 ++ Y3).length = 8 := by rw [List.length_append, lZ2, lY3]
          generalize Z2 ++ Y3 = Z3 at *
          clear tZ2 tY3 lZ2 lY3
          clear tg gl hw tw wl k5 t5 x4 z4
          repeat cell_call
          have tY4 : IsT [.str u] := IsT.cons tu (by decide) IsT.nil
          have lY4 : ([.str u] : List V).length = 1 := rfl
          generalize ([.str u] : List V) = Y4 at *
          intro M8 j8
          have u15 := hp_ne (o' := .lst Y4) (ne_of_none u14 j8) u14
          have hB23 := hp_ne (o' := .lst Y4) (ne_of_none hB22 j8) hB22
          have u16 : (upd H21 M8 (.lst Y4)) M8 = some (.lst Y4) := upd_same
          have P23 := P22.new (o := .lst Y4) j8
          have sm23 : Same H (upd H21 M8 (.lst Y4)) := same_trN j8 sm22
          generalize upd H21 M8 (.lst Y4) = H22 at *
          clear j8 P22 sm22 u14 hB22
          repeat cell_call
          refine st_cat u16 u15 (by rw [lY4, lZ3]; decide) fun M9 j9 => ?_
          have hB24 := hp_ne (o' := .lst (Y4 ++ Z3)) (ne_of_none hB23 j9) hB23
          have u17 : (upd H22 M9 (.lst (Y4 ++ Z3))) M9 = some (.lst (Y4 ++ Z3)) := upd_same
          have P24 := P23.new (o := .lst (Y4 ++ Z3)) j9
          have sm24 : Same H (upd H22 M9 (.lst (Y4 ++ Z3))) := same_trN j9 sm23
          generalize upd H22 M9 (.lst (Y4 ++ Z3)) = H23 at *
          clear j9 P23 sm23 u16 u15 hB23
          have tW := tY4.app tZ3
          have lW : (Y4 ++ Z3).length = 9 := by rw [List.length_append, lY4, lZ3]
          generalize Y4 ++ Z3 = W at *
          clear tY4 tZ3 lY4 lZ3
          repeat cell_call
          refine ⟨⟨_, SqL.of u17⟩, fun E nE => ?_⟩
          refine lc_list (xs := W) (fun _ H' => Same H23 H' ∧ H' E = some (.lst [])) ⟨Same.new nE, upd_same⟩ (fun i H' _ e => e.1.seq (SqL.of u17)) (fun i x H' hx e => ?_) (fun H' e => ?_)
          · obtain ⟨smc, hE⟩ := e
            obtain ⟨w, rfl, tw⟩ := tW x (List.mem_of_getElem? hx)
            repeat cell_call
            refine ⟨w, rfl, tw.mono (by decide), fun HZ FZ => ?_⟩
            repeat cell_call
            exact ⟨same_tr FZ smc, FZ _ _ hE⟩
          · obtain ⟨smc, hE⟩ := e
            have sm25 := same_tr smc sm24
            have P25 := P24.same smc
            clear smc sm24 P24 u17 hB24
            repeat cell_call
            intro B2 n2
            have sm26 : Same H (upd H' B2 (.lst [])) := same_trN n2 sm25
            refine st_neNil (ns := []) (SqL.of (hp_ne (ne_of_none hE n2) hE)) (SqL.of upd_same) ?_
            repeat cell_call
            exact ⟨sm26, (P25.new n2).mono (by omega), _, _, _, _, _, _, _, _, rfl⟩
      · obtain ⟨sm, P2, t, b, l, d', o', s', n', m', rfl⟩ := e
        exact ⟨sm, P2.mono (by omega), _, _, _, _, _, _, _, _, _, rfl⟩
    · obtain ⟨sm, P1, k, t, b, l, d', o', s', n', m', rfl⟩ := e
      have k1 : (Str.ofString "/1/1").length = 4 := rfl
      have k2 : (Str.ofString "2023/1/").length = 7 := rfl
      have k3 : (Str.ofString "-").length = 1 := rfl
      have t1 : TkO 4 (Str.ofString "/1/1") := TkO.lit (Nat.le_refl 4)
      have t2 : TkO 7 (Str.ofString "2023/1/") := TkO.lit (Nat.le_refl 7)
      have t3 : TkO 1 (Str.ofString "-") := TkO.lit (Nat.le_refl 1)
      clear P1 sm
      repeat cell_call
      refine st_mulS (by decide) (by decide) (by decide +kernel) fun w1 hw1 => ?_
      have tw1 : TkO 3990 w1 := (hw1.tk (TkO.lit (Nat.le_refl _))).mono (by decide +kernel)
      have wl1 := tw1.le
      repeat (first | cell_call | with_reducible refine st_addS (by (try simp only [PySem.Str.length_append]); omega) ?_)
      refine ⟨_, rfl, (tw1.app t1).mono (by decide), fun H2 F2 => ?_⟩
      repeat cell_call
      refine st_mulS (by decide) (by decide) (by decide +kernel) fun w2 hw2 => ?_
      have tw2 : TkO 3990 w2 := (hw2.tk (TkO.lit (Nat.le_refl _))).mono (by decide +kernel)
      have wl2 := tw2.le
      repeat (first | cell_call | with_reducible refine st_addS (by (try simp only [PySem.Str.length_append]); omega) ?_)
      refine ⟨_, rfl, (t2.app tw2).mono (by decide), fun H3 F3 => ?_⟩
      repeat cell_call
      refine st_mulS (by decide) (by decide) (by decide +kernel) fun w3 hw3 => ?_
      have tw3 : TkO 60 w3 := (hw3.tk (TkO.lit (Nat.le_refl _))).mono (by decide +kernel)
      have wl3 := tw3.le
      repeat (first | cell_call | with_reducible refine st_addS (by (try simp only [PySem.Str.length_append]); omega) ?_)
      refine ⟨_, rfl, (tw3.app t1).mono (by decide), fun H4 F4 => ?_⟩
      repeat cell_call
      refine st_mulS (by decide) (by decide) (by decide +kernel) fun w4 hw4 => ?_
      have tw4 : TkO 61 w4 := (hw4.tk (TkO.lit (Nat.le_refl _))).mono (by decide +kernel)
      have wl4 := tw4.le
      repeat (first | cell_call | with_reducible refine st_addS (by (try simp only [PySem.Str.length_append]); omega) ?_)
      refine ⟨_, rfl, ((t3.app tw4).app t1).mono (by decide), fun H5 F5 => ?_⟩
      repeat cell_call
      refine ⟨_, rfl, TkO.lit (by decide +kernel), fun H6 F6 => ?_⟩
      exact q _

end
end Mc
namespace Mc
open PySem PySem.Spec PyProof.Rows L2

def d_is_leap : He.DefD := ⟨("is_leap", none), "is_leap", "is_leap", defArgs s_is_leap, defBody s_is_leap, defScope s_is_leap, [], []⟩
def d_is_month : He.DefD := ⟨("is_month", none), "is_month", "is_month", defArgs s_is_month, defBody s_is_month, defScope s_is_month, [], []⟩
def d_length_of_month : He.DefD := ⟨("length_of_month", none), "length_of_month", "length_of_month", defArgs s_length_of_month, defBody s_length_of_month, defScope s_length_of_month, [], []⟩
def d_is_date : He.DefD := ⟨("is_date", none), "is_date", "is_date", defArgs s_is_date, defBody s_is_date, defScope s_is_date, [], []⟩
def d_show_date : He.DefD := ⟨("show_date", none), "show_date", "show_date", defArgs s_show_date, defBody s_show_date, defScope s_show_date, [], []⟩
def d_number_in : He.DefD := ⟨("number_in", none), "number_in", "number_in", defArgs s_number_in, defBody s_number_in, defScope s_number_in, [], []⟩
def d_read_date : He.DefD := ⟨("read_date", none), "read_date", "read_date", defArgs s_read_date, defBody s_read_date, defScope s_read_date, [], []⟩
def d_law_source : He.DefD := ⟨("_law_source", none), "_law_source", "_law_source", defArgs s_law_source, defBody s_law_source, defScope s_law_source, [], []⟩
def d_law_draw : He.DefD := ⟨("_law_draw", none), "_law_draw", "_law_draw", defArgs s_law_draw, defBody s_law_draw, defScope s_law_draw, [], []⟩
def d_law_same : He.DefD := ⟨("_law_same", none), "_law_same", "_law_same", defArgs s_law_same, defBody s_law_same, defScope s_law_same, [], []⟩
def d_law_leap : He.DefD := ⟨("_law_leap", none), "_law_leap", "_law_leap", defArgs s_law_leap, defBody s_law_leap, defScope s_law_leap, [], []⟩
def d_law_length : He.DefD := ⟨("_law_length", none), "_law_length", "_law_length", defArgs s_law_length, defBody s_law_length, defScope s_law_length, [], []⟩
def d_law_count : He.DefD := ⟨("_law_count", none), "_law_count", "_law_count", defArgs s_law_count, defBody s_law_count, defScope s_law_count, [], []⟩
def d_law_date : He.DefD := ⟨("_law_date", none), "_law_date", "_law_date", defArgs s_law_date, defBody s_law_date, defScope s_law_date, [], []⟩
def d_law_text : He.DefD := ⟨("_law_text", none), "_law_text", "_law_text", defArgs s_law_text, defBody s_law_text, defScope s_law_text, [], []⟩
def d_law_row : He.DefD := ⟨("_law_row", none), "_law_row", "_law_row", defArgs s_law_row, defBody s_law_row, defScope s_law_row, [], []⟩
def d_law_number : He.DefD := ⟨("_law_number", none), "_law_number", "_law_number", defArgs s_law_number, defBody s_law_number, defScope s_law_number, [], []⟩
def d_law_date_in : He.DefD := ⟨("_law_date_in", none), "_law_date_in", "_law_date_in", defArgs s_law_date_in, defBody s_law_date_in, defScope s_law_date_in, [], []⟩
def d_law_jumps_in : He.DefD := ⟨("_law_jumps_in", none), "_law_jumps_in", "_law_jumps_in", defArgs s_law_jumps_in, defBody s_law_jumps_in, defScope s_law_jumps_in, [], []⟩
def d_law_bent : He.DefD := ⟨("_law_bent", none), "_law_bent", "_law_bent", defArgs s_law_bent, defBody s_law_bent, defScope s_law_bent, [], []⟩
def d_law_error : He.DefD := ⟨("_law_error", none), "_law_error", "_law_error", defArgs s_law_error, defBody s_law_error, defScope s_law_error, [], []⟩
def d_law_told : He.DefD := ⟨("_law_told", none), "_law_told", "_law_told", defArgs s_law_told, defBody s_law_told, defScope s_law_told, [], []⟩
def d_law_right : He.DefD := ⟨("_law_right", none), "_law_right", "_law_right", defArgs s_law_right, defBody s_law_right, defScope s_law_right, [], []⟩
def d_law : He.DefD := ⟨("law", none), "law", "law", defArgs s_law, defBody s_law, defScope s_law, [], []⟩
def d_InvalidDate___init__ : He.DefD := ⟨("InvalidDate", some "__init__"), "__init__", "InvalidDate.__init__", defArgs s_InvalidDate___init__, defBody s_InvalidDate___init__, defScope s_InvalidDate___init__, [], []⟩
def d_InvalidNumber___init__ : He.DefD := ⟨("InvalidNumber", some "__init__"), "__init__", "InvalidNumber.__init__", defArgs s_InvalidNumber___init__, defBody s_InvalidNumber___init__, defScope s_InvalidNumber___init__, [], []⟩
def d_NothingToUndo___init__ : He.DefD := ⟨("NothingToUndo", some "__init__"), "__init__", "NothingToUndo.__init__", defArgs s_NothingToUndo___init__, defBody s_NothingToUndo___init__, defScope s_NothingToUndo___init__, [], []⟩
def d_Unreadable___init__ : He.DefD := ⟨("Unreadable", some "__init__"), "__init__", "Unreadable.__init__", defArgs s_Unreadable___init__, defBody s_Unreadable___init__, defScope s_Unreadable___init__, [], []⟩
def fnL : List He.DefD := [d_is_leap, d_is_month, d_length_of_month, d_is_date, d_show_date, d_number_in, d_read_date, d_law_source, d_law_draw, d_law_same, d_law_leap, d_law_length, d_law_count, d_law_date, d_law_text, d_law_row, d_law_number, d_law_date_in, d_law_jumps_in, d_law_bent, d_law_error, d_law_told, d_law_right, d_law, d_InvalidDate___init__, d_InvalidNumber___init__, d_NothingToUndo___init__, d_Unreadable___init__]
def faL : List He.Fa := [.glo "is_leap", .glo "is_month", .glo "length_of_month", .glo "is_date", .glo "show_date", .glo "number_in", .glo "read_date", .glo "_law_source", .glo "_law_draw", .glo "_law_same", .glo "_law_leap", .glo "_law_length", .glo "_law_count", .glo "_law_date", .glo "_law_text", .glo "_law_row", .glo "_law_number", .glo "_law_date_in", .glo "_law_jumps_in", .glo "_law_bent", .glo "_law_error", .glo "_law_told", .glo "_law_right", .glo "law", .free "ValueError", .free "all", .free "bool", .free "int", .free "isinstance", .free "len", .free "list", .free "max", .free "min", .free "range", .free "str", .free "tuple", .int "FEBRUARY" (2), .int "MOST_DIGITS" (60), .str "DIGITS" "0123456789", .glo "SHORT_MONTHS", .glo "InvalidDate", .glo "InvalidNumber", .glo "NothingToUndo", .glo "Unreadable", .glo "DateError", .exm "InvalidDate" "DateError" true, .exm "InvalidNumber" "DateError" true, .exm "NothingToUndo" "DateError" true, .exm "Unreadable" "DateError" true]
def exL : PySem.W.Frag → Bool := fun K => He.tupB K "SHORT_MONTHS" [.int (4), .int (6), .int (9), .int (11)] && baseB K (He.ga K "DateError") && excKB K (He.ga K "InvalidDate") && excKB K (He.ga K "InvalidNumber") && excKB K (He.ga K "NothingToUndo") && excKB K (He.ga K "Unreadable") && decide (PySem.W.kitOne K (.ref (He.ga K "InvalidDate")) (.ref (He.ga K "InvalidDate")) = some true) && decide (PySem.W.kitOne K (.ref (He.ga K "InvalidDate")) (.ref (He.ga K "InvalidNumber")) = some false) && decide (PySem.W.kitOne K (.ref (He.ga K "InvalidDate")) (.ref (He.ga K "NothingToUndo")) = some false) && decide (PySem.W.kitOne K (.ref (He.ga K "InvalidDate")) (.ref (He.ga K "Unreadable")) = some false) && decide (PySem.W.kitOne K (.ref (He.ga K "InvalidDate")) (.ref (He.ga K "DateError")) = some true) && decide (PySem.W.kitOne K (.ref (He.ga K "InvalidNumber")) (.ref (He.ga K "InvalidDate")) = some false) && decide (PySem.W.kitOne K (.ref (He.ga K "InvalidNumber")) (.ref (He.ga K "InvalidNumber")) = some true) && decide (PySem.W.kitOne K (.ref (He.ga K "InvalidNumber")) (.ref (He.ga K "NothingToUndo")) = some false) && decide (PySem.W.kitOne K (.ref (He.ga K "InvalidNumber")) (.ref (He.ga K "Unreadable")) = some false) && decide (PySem.W.kitOne K (.ref (He.ga K "InvalidNumber")) (.ref (He.ga K "DateError")) = some true) && decide (PySem.W.kitOne K (.ref (He.ga K "NothingToUndo")) (.ref (He.ga K "InvalidDate")) = some false) && decide (PySem.W.kitOne K (.ref (He.ga K "NothingToUndo")) (.ref (He.ga K "InvalidNumber")) = some false) && decide (PySem.W.kitOne K (.ref (He.ga K "NothingToUndo")) (.ref (He.ga K "NothingToUndo")) = some true) && decide (PySem.W.kitOne K (.ref (He.ga K "NothingToUndo")) (.ref (He.ga K "Unreadable")) = some false) && decide (PySem.W.kitOne K (.ref (He.ga K "NothingToUndo")) (.ref (He.ga K "DateError")) = some true) && decide (PySem.W.kitOne K (.ref (He.ga K "Unreadable")) (.ref (He.ga K "InvalidDate")) = some false) && decide (PySem.W.kitOne K (.ref (He.ga K "Unreadable")) (.ref (He.ga K "InvalidNumber")) = some false) && decide (PySem.W.kitOne K (.ref (He.ga K "Unreadable")) (.ref (He.ga K "NothingToUndo")) = some false) && decide (PySem.W.kitOne K (.ref (He.ga K "Unreadable")) (.ref (He.ga K "Unreadable")) = some true) && decide (PySem.W.kitOne K (.ref (He.ga K "Unreadable")) (.ref (He.ga K "DateError")) = some true) && decide (PySem.W.kitOne K (.ref (He.ga K "InvalidDate")) (.type "ValueError") = some true) && decide (PySem.W.kitOne K (.ref (He.ga K "InvalidNumber")) (.type "ValueError") = some true) && decide (PySem.W.kitOne K (.ref (He.ga K "NothingToUndo")) (.type "ValueError") = some true) && decide (PySem.W.kitOne K (.ref (He.ga K "Unreadable")) (.type "ValueError") = some true)
abbrev RW : PySem.W.OpenRow := PySem.W.OpenLaw.row PySem.Challenge.rw_monthclamp_k41_dates_read
abbrev hkL : PySem.W.Hook := hookB 5 faL fnL exL
def obL (s : PySem.W.SharedT) : AlB := obsB 5 faL fnL exL (HandSHeadRun.getT s)
theorem obL_eq (s : PySem.W.SharedT) : obL s = hkL.obs s.abs := obsB_eq (HandSHeadRun.getT_eq s)
abbrev loL : List Str := (["DateError", "InvalidDate", "InvalidNumber", "NothingToUndo", "Unreadable", "SHORT_MONTHS", "FEBRUARY", "is_leap", "is_month", "length_of_month", "is_date", "show_date", "DIGITS", "MOST_DIGITS", "number_in", "read_date", "_law_source", "_law_draw", "_law_same", "_law_leap", "_law_length", "_law_count", "_law_date", "_law_text", "_law_row", "_law_number", "_law_date_in", "_law_jumps_in", "_law_bent", "_law_error"] : List Str) ++ (["_law_told", "_law_right"] : List Str)
theorem runL (w : World) : HandSHeadRun.RunEq RW (PySem.W.view RW.prog [38]) hkL obL 3000 loL w := by
  intro os
  kernel_rfl
section
variable {K : PySem.W.Frag} {mg : Str → Option Value} {h : Heap} {w : World}
theorem txt_of (X : K.In h) (G : h.Ns mainGlobals mg) (c : SaysB faL fnL exL K) : ∃ _ : Txt K mg, True := by
  obtain ⟨fd0, F0⟩ := c.d.def_ 0 (d := d_is_leap) rfl
  obtain ⟨fd1, F1⟩ := c.d.def_ 1 (d := d_is_month) rfl
  obtain ⟨fd2, F2⟩ := c.d.def_ 2 (d := d_length_of_month) rfl
  obtain ⟨fd3, F3⟩ := c.d.def_ 3 (d := d_is_date) rfl
  obtain ⟨fd4, F4⟩ := c.d.def_ 4 (d := d_show_date) rfl
  obtain ⟨fd5, F5⟩ := c.d.def_ 5 (d := d_number_in) rfl
  obtain ⟨fd6, F6⟩ := c.d.def_ 6 (d := d_read_date) rfl
  obtain ⟨fd7, F7⟩ := c.d.def_ 7 (d := d_law_source) rfl
  obtain ⟨fd8, F8⟩ := c.d.def_ 8 (d := d_law_draw) rfl
  obtain ⟨fd9, F9⟩ := c.d.def_ 9 (d := d_law_same) rfl
  obtain ⟨fd10, F10⟩ := c.d.def_ 10 (d := d_law_leap) rfl
  obtain ⟨fd11, F11⟩ := c.d.def_ 11 (d := d_law_length) rfl
  obtain ⟨fd12, F12⟩ := c.d.def_ 12 (d := d_law_count) rfl
  obtain ⟨fd13, F13⟩ := c.d.def_ 13 (d := d_law_date) rfl
  obtain ⟨fd14, F14⟩ := c.d.def_ 14 (d := d_law_text) rfl
  obtain ⟨fd15, F15⟩ := c.d.def_ 15 (d := d_law_row) rfl
  obtain ⟨fd16, F16⟩ := c.d.def_ 16 (d := d_law_number) rfl
  obtain ⟨fd17, F17⟩ := c.d.def_ 17 (d := d_law_date_in) rfl
  obtain ⟨fd18, F18⟩ := c.d.def_ 18 (d := d_law_jumps_in) rfl
  obtain ⟨fd19, F19⟩ := c.d.def_ 19 (d := d_law_bent) rfl
  obtain ⟨fd20, F20⟩ := c.d.def_ 20 (d := d_law_error) rfl
  obtain ⟨fd21, F21⟩ := c.d.def_ 21 (d := d_law_told) rfl
  obtain ⟨fd22, F22⟩ := c.d.def_ 22 (d := d_law_right) rfl
  obtain ⟨fd23, F23⟩ := c.d.def_ 23 (d := d_law) rfl
  obtain ⟨fm0, Fm0⟩ := c.d.def_ 24 (d := d_InvalidDate___init__) rfl
  obtain ⟨fm1, Fm1⟩ := c.d.def_ 25 (d := d_InvalidNumber___init__) rfl
  obtain ⟨fm2, Fm2⟩ := c.d.def_ 26 (d := d_NothingToUndo___init__) rfl
  obtain ⟨fm3, Fm3⟩ := c.d.def_ 27 (d := d_Unreadable___init__) rfl
  obtain ⟨t0, c0⟩ := He.int_ok X G (c.d.fact 36 (f := .int "FEBRUARY" (2)) rfl)
  obtain ⟨t1, c1⟩ := He.int_ok X G (c.d.fact 37 (f := .int "MOST_DIGITS" (60)) rfl)
  obtain ⟨u0, s0⟩ := He.str_ok X G (c.d.fact 38 (f := .str "DIGITS" "0123456789") rfl)
  exact ⟨{ g_is_leap := He.glo_ok X G (c.d.fact 0 (f := .glo "is_leap") rfl), fd_is_leap := fd0, F_is_leap := F0, g_is_month := He.glo_ok X G (c.d.fact 1 (f := .glo "is_month") rfl), fd_is_month := fd1, F_is_month := F1, g_length_of_month := He.glo_ok X G (c.d.fact 2 (f := .glo "length_of_month") rfl), fd_length_of_month := fd2, F_length_of_month := F2, g_is_date := He.glo_ok X G (c.d.fact 3 (f := .glo "is_date") rfl), fd_is_date := fd3, F_is_date := F3, g_show_date := He.glo_ok X G (c.d.fact 4 (f := .glo "show_date") rfl), fd_show_date := fd4, F_show_date := F4, g_number_in := He.glo_ok X G (c.d.fact 5 (f := .glo "number_in") rfl), fd_number_in := fd5, F_number_in := F5, g_read_date := He.glo_ok X G (c.d.fact 6 (f := .glo "read_date") rfl), fd_read_date := fd6, F_read_date := F6, g_law_source := He.glo_ok X G (c.d.fact 7 (f := .glo "_law_source") rfl), fd_law_source := fd7, F_law_source := F7, g_law_draw := He.glo_ok X G (c.d.fact 8 (f := .glo "_law_draw") rfl), fd_law_draw := fd8, F_law_draw := F8, g_law_same := He.glo_ok X G (c.d.fact 9 (f := .glo "_law_same") rfl), fd_law_same := fd9, F_law_same := F9, g_law_leap := He.glo_ok X G (c.d.fact 10 (f := .glo "_law_leap") rfl), fd_law_leap := fd10, F_law_leap := F10, g_law_length := He.glo_ok X G (c.d.fact 11 (f := .glo "_law_length") rfl), fd_law_length := fd11, F_law_length := F11, g_law_count := He.glo_ok X G (c.d.fact 12 (f := .glo "_law_count") rfl), fd_law_count := fd12, F_law_count := F12, g_law_date := He.glo_ok X G (c.d.fact 13 (f := .glo "_law_date") rfl), fd_law_date := fd13, F_law_date := F13, g_law_text := He.glo_ok X G (c.d.fact 14 (f := .glo "_law_text") rfl), fd_law_text := fd14, F_law_text := F14, g_law_row := He.glo_ok X G (c.d.fact 15 (f := .glo "_law_row") rfl), fd_law_row := fd15, F_law_row := F15, g_law_number := He.glo_ok X G (c.d.fact 16 (f := .glo "_law_number") rfl), fd_law_number := fd16, F_law_number := F16, g_law_date_in := He.glo_ok X G (c.d.fact 17 (f := .glo "_law_date_in") rfl), fd_law_date_in := fd17, F_law_date_in := F17, g_law_jumps_in := He.glo_ok X G (c.d.fact 18 (f := .glo "_law_jumps_in") rfl), fd_law_jumps_in := fd18, F_law_jumps_in := F18, g_law_bent := He.glo_ok X G (c.d.fact 19 (f := .glo "_law_bent") rfl), fd_law_bent := fd19, F_law_bent := F19, g_law_error := He.glo_ok X G (c.d.fact 20 (f := .glo "_law_error") rfl), fd_law_error := fd20, F_law_error := F20, g_law_told := He.glo_ok X G (c.d.fact 21 (f := .glo "_law_told") rfl), fd_law_told := fd21, F_law_told := F21, g_law_right := He.glo_ok X G (c.d.fact 22 (f := .glo "_law_right") rfl), fd_law_right := fd22, F_law_right := F22, g_law := He.glo_ok X G (c.d.fact 23 (f := .glo "law") rfl), fd_law := fd23, F_law := F23, b_ValueError := He.free_ok X G (c.d.fact 24 (f := .free "ValueError") rfl), b_all := He.free_ok X G (c.d.fact 25 (f := .free "all") rfl), b_bool := He.free_ok X G (c.d.fact 26 (f := .free "bool") rfl), b_int := He.free_ok X G (c.d.fact 27 (f := .free "int") rfl), b_isinstance := He.free_ok X G (c.d.fact 28 (f := .free "isinstance") rfl), b_len := He.free_ok X G (c.d.fact 29 (f := .free "len") rfl), b_list := He.free_ok X G (c.d.fact 30 (f := .free "list") rfl), b_max := He.free_ok X G (c.d.fact 31 (f := .free "max") rfl), b_min := He.free_ok X G (c.d.fact 32 (f := .free "min") rfl), b_range := He.free_ok X G (c.d.fact 33 (f := .free "range") rfl), b_str := He.free_ok X G (c.d.fact 34 (f := .free "str") rfl), b_tuple := He.free_ok X G (c.d.fact 35 (f := .free "tuple") rfl), c_FEBRUARY := ⟨t0, c0⟩, c_MOST_DIGITS := ⟨t1, c1⟩, c_DIGITS := ⟨u0, s0⟩, g_SHORT_MONTHS := He.glo_ok X G (c.d.fact 39 (f := .glo "SHORT_MONTHS") rfl), t_SHORT_MONTHS := fun H => He.tupB_ok (He.ba (He.ba (He.ba (He.ba (He.ba (He.ba (He.ba (He.ba (He.ba (He.ba (He.ba (He.ba (He.ba (He.ba (He.ba (He.ba (He.ba (He.ba (He.ba (He.ba (He.ba (He.ba (He.ba (He.ba (He.ba (He.ba (He.ba (He.ba (He.ba c.more).1).1).1).1).1).1).1).1).1).1).1).1).1).1).1).1).1).1).1).1).1).1).1).1).1).1).1).1).1 H, fd_InvalidDate___init__ := fm0, F_InvalidDate___init__ := Fm0, fd_InvalidNumber___init__ := fm1, F_InvalidNumber___init__ := Fm1, fd_NothingToUndo___init__ := fm2, F_NothingToUndo___init__ := Fm2, fd_Unreadable___init__ := fm3, F_Unreadable___init__ := Fm3, g_InvalidDate := He.glo_ok X G (c.d.fact 40 (f := .glo "InvalidDate") rfl), g_InvalidNumber := He.glo_ok X G (c.d.fact 41 (f := .glo "InvalidNumber") rfl), g_NothingToUndo := He.glo_ok X G (c.d.fact 42 (f := .glo "NothingToUndo") rfl), g_Unreadable := He.glo_ok X G (c.d.fact 43 (f := .glo "Unreadable") rfl), g_DateError := He.glo_ok X G (c.d.fact 44 (f := .glo "DateError") rfl), x_InvalidDate_DateError := He.exm_ok (c.d.fact 45 (f := .exm "InvalidDate" "DateError" true) rfl), x_InvalidNumber_DateError := He.exm_ok (c.d.fact 46 (f := .exm "InvalidNumber" "DateError" true) rfl), x_NothingToUndo_DateError := He.exm_ok (c.d.fact 47 (f := .exm "NothingToUndo" "DateError" true) rfl), x_Unreadable_DateError := He.exm_ok (c.d.fact 48 (f := .exm "Unreadable" "DateError" true) rfl), d_DateError := baseB_ok (He.ba (He.ba (He.ba (He.ba (He.ba (He.ba (He.ba (He.ba (He.ba (He.ba (He.ba (He.ba (He.ba (He.ba (He.ba (He.ba (He.ba (He.ba (He.ba (He.ba (He.ba (He.ba (He.ba (He.ba (He.ba (He.ba (He.ba (He.ba (He.ba c.more).1).1).1).1).1).1).1).1).1).1).1).1).1).1).1).1).1).1).1).1).1).1).1).1).1).1).1).1).2, e_InvalidDate := excKB_ok (He.ba (He.ba (He.ba (He.ba (He.ba (He.ba (He.ba (He.ba (He.ba (He.ba (He.ba (He.ba (He.ba (He.ba (He.ba (He.ba (He.ba (He.ba (He.ba (He.ba (He.ba (He.ba (He.ba (He.ba (He.ba (He.ba (He.ba (He.ba c.more).1).1).1).1).1).1).1).1).1).1).1).1).1).1).1).1).1).1).1).1).1).1).1).1).1).1).1).2, e_InvalidNumber := excKB_ok (He.ba (He.ba (He.ba (He.ba (He.ba (He.ba (He.ba (He.ba (He.ba (He.ba (He.ba (He.ba (He.ba (He.ba (He.ba (He.ba (He.ba (He.ba (He.ba (He.ba (He.ba (He.ba (He.ba (He.ba (He.ba (He.ba (He.ba c.more).1).1).1).1).1).1).1).1).1).1).1).1).1).1).1).1).1).1).1).1).1).1).1).1).1).1).2, e_NothingToUndo := excKB_ok (He.ba (He.ba (He.ba (He.ba (He.ba (He.ba (He.ba (He.ba (He.ba (He.ba (He.ba (He.ba (He.ba (He.ba (He.ba (He.ba (He.ba (He.ba (He.ba (He.ba (He.ba (He.ba (He.ba (He.ba (He.ba (He.ba c.more).1).1).1).1).1).1).1).1).1).1).1).1).1).1).1).1).1).1).1).1).1).1).1).1).1).2, e_Unreadable := excKB_ok (He.ba (He.ba (He.ba (He.ba (He.ba (He.ba (He.ba (He.ba (He.ba (He.ba (He.ba (He.ba (He.ba (He.ba (He.ba (He.ba (He.ba (He.ba (He.ba (He.ba (He.ba (He.ba (He.ba (He.ba (He.ba c.more).1).1).1).1).1).1).1).1).1).1).1).1).1).1).1).1).1).1).1).1).1).1).1).1).2, k_InvalidDate_InvalidDate := of_decide_eq_true (He.ba (He.ba (He.ba (He.ba (He.ba (He.ba (He.ba (He.ba (He.ba (He.ba (He.ba (He.ba (He.ba (He.ba (He.ba (He.ba (He.ba (He.ba (He.ba (He.ba (He.ba (He.ba (He.ba (He.ba c.more).1).1).1).1).1).1).1).1).1).1).1).1).1).1).1).1).1).1).1).1).1).1).1).2, k_InvalidDate_InvalidNumber := of_decide_eq_true (He.ba (He.ba (He.ba (He.ba (He.ba (He.ba (He.ba (He.ba (He.ba (He.ba (He.ba (He.ba (He.ba (He.ba (He.ba (He.ba (He.ba (He.ba (He.ba (He.ba (He.ba (He.ba (He.ba c.more).1).1).1).1).1).1).1).1).1).1).1).1).1).1).1).1).1).1).1).1).1).1).2, k_InvalidDate_NothingToUndo := of_decide_eq_true (He.ba (He.ba (He.ba (He.ba (He.ba (He.ba (He.ba (He.ba (He.ba (He.ba (He.ba (He.ba (He.ba (He.ba (He.ba (He.ba (He.ba (He.ba (He.ba (He.ba (He.ba (He.ba c.more).1).1).1).1).1).1).1).1).1).1).1).1).1).1).1).1).1).1).1).1).1).2, k_InvalidDate_Unreadable := of_decide_eq_true (He.ba (He.ba (He.ba (He.ba (He.ba (He.ba (He.ba (He.ba (He.ba (He.ba (He.ba (He.ba (He.ba (He.ba (He.ba (He.ba (He.ba (He.ba (He.ba (He.ba (He.ba c.more).1).1).1).1).1).1).1).1).1).1).1).1).1).1).1).1).1).1).1).1).2, k_InvalidDate_DateError := of_decide_eq_true (He.ba (He.ba (He.ba (He.ba (He.ba (He.ba (He.ba (He.ba (He.ba (He.ba (He.ba (He.ba (He.ba (He.ba (He.ba (He.ba (He.ba (He.ba (He.ba (He.ba c.more).1).1).1).1).1).1).1).1).1).1).1).1).1).1).1).1).1).1).1).2, k_InvalidNumber_InvalidDate := of_decide_eq_true (He.ba (He.ba (He.ba (He.ba (He.ba (He.ba (He.ba (He.ba (He.ba (He.ba (He.ba (He.ba (He.ba (He.ba (He.ba (He.ba (He.ba (He.ba (He.ba c.more).1).1).1).1).1).1).1).1).1).1).1).1).1).1).1).1).1).1).2, k_InvalidNumber_InvalidNumber := of_decide_eq_true (He.ba (He.ba (He.ba (He.ba (He.ba (He.ba (He.ba (He.ba (He.ba (He.ba (He.ba (He.ba (He.ba (He.ba (He.ba (He.ba (He.ba (He.ba c.more).1).1).1).1).1).1).1).1).1).1).1).1).1).1).1).1).1).2, k_InvalidNumber_NothingToUndo := of_decide_eq_true (He.ba (He.ba (He.ba (He.ba (He.ba (He.ba (He.ba (He.ba (He.ba (He.ba (He.ba (He.ba (He.ba (He.ba (He.ba (He.ba (He.ba c.more).1).1).1).1).1).1).1).1).1).1).1).1).1).1).1).1).2, k_InvalidNumber_Unreadable := of_decide_eq_true (He.ba (He.ba (He.ba (He.ba (He.ba (He.ba (He.ba (He.ba (He.ba (He.ba (He.ba (He.ba (He.ba (He.ba (He.ba (He.ba c.more).1).1).1).1).1).1).1).1).1).1).1).1).1).1).1).2, k_InvalidNumber_DateError := of_decide_eq_true (He.ba (He.ba (He.ba (He.ba (He.ba (He.ba (He.ba (He.ba (He.ba (He.ba (He.ba (He.ba (He.ba (He.ba (He.ba c.more).1).1).1).1).1).1).1).1).1).1).1).1).1).1).2, k_NothingToUndo_InvalidDate := of_decide_eq_true (He.ba (He.ba (He.ba (He.ba (He.ba (He.ba (He.ba (He.ba (He.ba (He.ba (He.ba (He.ba (He.ba (He.ba c.more).1).1).1).1).1).1).1).1).1).1).1).1).1).2, k_NothingToUndo_InvalidNumber := of_decide_eq_true (He.ba (He.ba (He.ba (He.ba (He.ba (He.ba (He.ba (He.ba (He.ba (He.ba (He.ba (He.ba (He.ba c.more).1).1).1).1).1).1).1).1).1).1).1).1).2, k_NothingToUndo_NothingToUndo := of_decide_eq_true (He.ba (He.ba (He.ba (He.ba (He.ba (He.ba (He.ba (He.ba (He.ba (He.ba (He.ba (He.ba c.more).1).1).1).1).1).1).1).1).1).1).1).2, k_NothingToUndo_Unreadable := of_decide_eq_true (He.ba (He.ba (He.ba (He.ba (He.ba (He.ba (He.ba (He.ba (He.ba (He.ba (He.ba c.more).1).1).1).1).1).1).1).1).1).1).2, k_NothingToUndo_DateError := of_decide_eq_true (He.ba (He.ba (He.ba (He.ba (He.ba (He.ba (He.ba (He.ba (He.ba (He.ba c.more).1).1).1).1).1).1).1).1).1).2, k_Unreadable_InvalidDate := of_decide_eq_true (He.ba (He.ba (He.ba (He.ba (He.ba (He.ba (He.ba (He.ba (He.ba c.more).1).1).1).1).1).1).1).1).2, k_Unreadable_InvalidNumber := of_decide_eq_true (He.ba (He.ba (He.ba (He.ba (He.ba (He.ba (He.ba (He.ba c.more).1).1).1).1).1).1).1).2, k_Unreadable_NothingToUndo := of_decide_eq_true (He.ba (He.ba (He.ba (He.ba (He.ba (He.ba (He.ba c.more).1).1).1).1).1).1).2, k_Unreadable_Unreadable := of_decide_eq_true (He.ba (He.ba (He.ba (He.ba (He.ba (He.ba c.more).1).1).1).1).1).2, k_Unreadable_DateError := of_decide_eq_true (He.ba (He.ba (He.ba (He.ba (He.ba c.more).1).1).1).1).2, k_InvalidDate_ValueError := of_decide_eq_true (He.ba (He.ba (He.ba (He.ba c.more).1).1).1).2, k_InvalidNumber_ValueError := of_decide_eq_true (He.ba (He.ba (He.ba c.more).1).1).2, k_NothingToUndo_ValueError := of_decide_eq_true (He.ba (He.ba c.more).1).2, k_Unreadable_ValueError := of_decide_eq_true (He.ba c.more).2 }, trivial⟩
end
end Mc
open PySem PySem.W PySem.Calls PyProof.Rows
set_option maxRecDepth 100000 in
set_option maxHeartbeats 0 in
theorem PySem.Challenge.cw_monthclamp_k41_dates_read_holds : PySem.Challenge.rw_monthclamp_k41_dates_read.Holds := by
  w_on; o_law
  refine HandSHeadRun.head_any (r := Mc.RW) (q := view Mc.RW.prog [38]) (H := Mc.hkL) (ob := Mc.obL) (M := 3000) (loose := Mc.loL) (d := HandSHeadRun.topDef Mc.RW.prog 38) (kwd := []) Mc.obL_eq
    (by kernel_rfl) (fun s => by kernel_rfl) Mc.runL (by kernel_rfl) (by kernel_rfl) (by kernel_rfl) (by rfl) (by first | assumption | decide +kernel) (by decide +kernel) ⟨rfl, rfl, rfl, rfl, rfl, by decide +kernel⟩ ?hw ?hc
  case hw => w_witness2
  case hc =>
    refine L2.walk_ofE (l := PySem.Challenge.rw_monthclamp_k41_dates_read) (n := 63) (k := 9) (x := "script") (CX := L2.CX0) rfl (by decide) (by kernel_rfl) ⟨rfl, by decide, by decide⟩ ?F (fun _ _ _ _ z => z)
    intro w mg fa h Y G hmg0
    obtain ⟨K, KX, c⟩ := Y
    have hmg : mg ("law" : PySem.Str) = some (.ref fa) := by
      have e : (HandSHeadRun.topDef Mc.RW.prog 38).name = ("law" : PySem.Str) := by kernel_rfl
      rw [← e]
      exact hmg0
    obtain ⟨T, _⟩ := Mc.txt_of KX G c
    have e := hmg.symm.trans T.g_law
    cases e
    exact ⟨K, T.fd_law, Mc.sp_law K, KX, fun s v => L2.FunD.bindsA (ps := ["script"]) T.F_law (fun _ _ _ _ _ _ us hl => match us, hl with | [_], _ => rfl) s [v] rfl, fun H a ns hl _ hS => ⟨a, ns, rfl, hS, hl, fun _ => rfl⟩, fun base _ _ => Mc.ok_law T⟩
