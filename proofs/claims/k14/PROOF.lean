import PyProof.Rows.All
import Wide.All
import OpenK.AllK
import Wide.FinOn
import HandS.ForMost
import HandS.Defaults
import HandS.Wide
import HandS.SortInts
import HandS.Strs
import HandS.IsInst
import HandS.Flow
import HandS.Style
import HandS.Deep
import HandS.Conv
import HandS.TupAny
import HandS.Head0
import HandS.Head1
import HandS.Head2
import HandS.HeadEnd
import HandS.HeadHook1
import HandS.HeadHook2
import HandS.HeadHook3
import HandS.HeadHook4
import HandS.HeadWalk
import HandS.EndBits
import HandS.FStr
import HandS.Text
import HandS.SetFor
import HandS.RaiseMore
import HandS.Exc
import HandS.WordsExc
import HandS.ExcInit
import HandS.ExcField
import KE.KExcIs
import HandS.SetBool
import HandS.WideBits
import PySem.Challenge.RW_monthclamp_k14_fewest_steps_by_search
set_option Elab.async false
set_option linter.all false
set_option maxRecDepth 100000
set_option maxHeartbeats 4000000
/-! own rules over the hand layer -/
namespace Mc
open PySem PySem.Spec PyProof.Rows L2
section
variable {X : Cx}
/-- powers of great ints -/
def CPowW (i j : Int) : Prop := 0 ≤ j ∧ (Builtin.Int.intBits i : Int) * j ≤ 2 ^ 27
theorem op_powW : OpR X (binaryOp .Pow) (rI CPowW fun i j => .int (i ^ j.toNat)) :=
  opI fun _ _ _ _ _ _ _ hc q => pow_int hc.1 hc.2 q
theorem bits_lt {i : Int} {b : Nat} (h : i.natAbs < 2 ^ b) (h0 : 0 < b) : Builtin.Int.intBits i ≤ b := by
  have y := PySem.Flt.log2_lt_of h0 h
  unfold Builtin.Int.intBits
  split <;> omega
theorem powW_of {i j : Int} {b : Nat} (h : i.natAbs < 2 ^ b) (h0 : 0 < b) (hj : 0 ≤ j) (hm : (b : Int) * j ≤ 2 ^ 27) : CPowW i j := by
  refine ⟨hj, Int.le_trans (Int.mul_le_mul_of_nonneg_right ?_ hj) hm⟩
  exact_mod_cast bits_lt h h0
end
end Mc
namespace Mc
open PySem PySem.Spec PyProof.Rows L2
/-! ### keywords -/
def gP {α : Type} (d : α) (is : List Nat) (us ws : List α) : List α := us ++ is.map fun i => ws.getD i d
theorem rel_getD : ∀ {zs : List V} {ws : List Value}, Vals zs ws → ∀ i : Nat, RelV (zs.getD i .non) (ws.getD i .none)
  | _, _, .nil, i => by cases i <;> exact rfl
  | _, _, .cons r _, 0 => r
  | _, _, .cons _ r, i + 1 => rel_getD r i
theorem rel_perm {zs : List V} {ws : List Value} (r : Vals zs ws) : ∀ is : List Nat, Vals (is.map fun i => zs.getD i .non) (is.map fun i => ws.getD i .none)
  | [] => .nil
  | i :: is => .cons (rel_getD r i) (rel_perm r is)
theorem kb_of {K : PySem.W.Frag} {x qual : Str} {params : Arguments} {body : List Stmt} {scope : Scope} {f : Addr} {fd : FuncData} {ps ks : List Str} {n : Nat} {is : List Nat}
    (F : FunD K x qual params body scope [] [] f fd)
    (h : ∀ (kV doc pm : Value) (an : Option Addr) (cdv ct : Value) (us ws : List Value), us.length = n → ws.length = ks.length →
      bindArgs (PySem.W.fnOf x qual params body scope .none kV doc pm an cdv ct) ⟨us, ks.zip ws⟩ = pure (ps.zip (gP .none is us ws))) :
    KBn K fd ps n ks (gP .none is) (gP .non is) := by
  obtain ⟨oc, od, dV, kV, doc, pm, an, cdv, ct, osl, rfl, lk, hcd, hD, hK⟩ := F.ex
  rcases hD with ⟨_, rfl⟩ | ⟨e, _⟩
  · exact ⟨fun s us ws _ h1 h2 => .of_eq (h kV doc pm an cdv ct us ws h1 h2), fun r rz => r.append (rel_perm rz is)⟩
  · exact absurd rfl e
section
variable {X : Cx} {CX : CXT} {k n : Nat} {f : Addr} {fd : FuncData} {ps ks : List Str} {sp : Sp} {E : XK} {x : Str} {p pos : Pos} {kws : List Keyword} {tk : TA}
variable {g : List Value → List Value → List Value} {gV : List V → List V → List V}
/-- f(k = v, ..), keywords alone -/
theorem pe_callN0 (F : FnOk X.prog X.w X.K X.mg X.base CX k f fd ps sp) (hr : Room k X.A) (hg : Gl X x) (hm : X.mg x = some (.ref f))
    (hk : PySem.W.keepIn X.K (.ref f) = true) (hb : KBn X.K fd ps 0 ks g gV) (hx : Passes CX X E) (hkw : PK X kws tk)
    (hall : (backToKw pos (keywordEach kws X.env)).all (·.1.isSome) = true := by rfl)
    (hks : (backToKw pos (keywordEach kws X.env)).filterMap (·.1) = ks := by rfl)
    (hdb : (x == ("__debug__" : Str)) = false := by decide)
    (hpl : ((backTo pos (starEach [] X.env)).any (·.1) || (backToKw pos (keywordEach kws X.env)).any (·.1.isNone)) = false := by rfl) :
    PE X (.Call (.Name x p) [] kws pos) (tCallN 0 ks.length sp gV E tNil tk) := by
  constructor
  intro pins s σ H Q I h
  apply wpAny_Call_Name_kw
  refine ld_glob I hg hm ?_ hdb
  apply PySem.W.callWith_KW0 (h₀ := X.base) I.ok.mod.kin hk hall ?_ hpl
  apply thn (hkw.run pos pins s σ H _ I h)
  rintro ws s2 ⟨zs, H2, I2, rz, l1, l2, q2⟩
  refine ⟨I2.kIn, ?_⟩
  rw [hks]
  exact run_fnN (us := []) (vs := []) F hr hb hx I2 .nil rz rfl l2 q2
end
end Mc
/-! readings step by step: one small rule a reading, for a walk that is driven by the goal's head -/
namespace Mc
open PySem PySem.Spec PyProof.Rows L2
section
variable {X : Cx}
theorem op_eqI : OpR X (compareOp .Eq) (rI0 fun i j => .bl (decide (i = j))) := opB0 (g := fun i j => decide (i = j)) fun _ _ _ _ _ _ _ q => eq_int q
theorem op_neI : OpR X (compareOp .NotEq) (rI0 fun i j => .bl (!decide (i = j))) := opB0 (g := fun i j => !decide (i = j)) fun _ _ _ _ _ _ _ q => ne_int q
end
/-- all but the object at S is as it was -/
def Frm (S : Addr) (H H' : Hp) : Prop := ∀ b o, b ≠ S → H b = some o → H' b = some o
theorem Frm.refl {S : Addr} (H : Hp) : Frm S H H := fun _ _ _ h => h
theorem Frm.trans {S : Addr} {H H1 H2 : Hp} (a : Frm S H H1) (b : Frm S H1 H2) : Frm S H H2 := fun c o n h => b c o n (a c o n h)
theorem Same.frm {S : Addr} {H H' : Hp} (a : Same H H') : Frm S H H' := fun c o _ h => a c o h
theorem Frm.set {S : Addr} {H : Hp} {o : HO} : Frm S H (upd H S o) := fun b u n e => by rw [upd_ne n]; exact e
theorem Same.new {H : Hp} {p : Addr} {o : HO} (h : H p = none) : Same H (upd H p o) := fun b u e => by
  rw [upd_ne (ne_of_none e h)]
  exact e
theorem Frm.seq {S : Addr} {K : PySem.W.Frag} {H H' : Hp} {a : Addr} {xs : List V} (e : Frm S H H') (n : a ≠ S) (h : SqL K H a xs) : SqL K H' a xs := by
  rcases h with (h | ⟨o, h⟩) | h
  · exact .inl (.inl (e _ _ n h))
  · exact .inl (.inr ⟨o, e _ _ n h⟩)
  · exact .inr h
theorem Frm.tup {S : Addr} {K : PySem.W.Frag} {H H' : Hp} {a : Addr} {xs : List V} (e : Frm S H H') (n : a ≠ S) (h : SqT K H a xs) : SqT K H' a xs := by
  rcases h with (h | ⟨o, h⟩) | h
  · exact .inl (.inl (e _ _ n h))
  · exact .inl (.inr ⟨o, e _ _ n h⟩)
  · exact .inr h
theorem Same.tup {K : PySem.W.Frag} {H H' : Hp} {a : Addr} {xs : List V} (e : Same H H') (h : SqT K H a xs) : SqT K H' a xs := by
  rcases h with (h | ⟨o, h⟩) | h
  · exact .inl (.inl (e _ _ h))
  · exact .inl (.inr ⟨o, e _ _ h⟩)
  · exact .inr h
/-- fresh later is fresh before, but for S -/
theorem Frm.free {S : Addr} {H H' : Hp} (e : Frm S H H') {l : Addr} (n : l ≠ S) (h : H' l = none) : H l = none := by
  cases q : H l with
  | none => rfl
  | some o =>
    rw [e l o n q] at h
    cases h
theorem hp_ne {H : Hp} {a p : Addr} {o o' : HO} (h : a ≠ p) (q : H a = some o) : upd H p o' a = some o := by rw [upd_ne h]; exact q
theorem hp_same {H H' : Hp} {a : Addr} {o : HO} (e : Same H H') (q : H a = some o) : H' a = some o := e _ _ q
theorem hp_frm {S : Addr} {H H' : Hp} {a : Addr} {o : HO} (e : Frm S H H') (n : a ≠ S) (q : H a = some o) : H' a = some o := e _ _ n q
theorem len_ok {α : Type} {xs : List α} (h : xs.length < 100000) : xs.length ≤ sizeLine := Nat.le_trans (Nat.le_of_lt h) (by decide)
theorem len_lt {α : Type} {xs : List α} (h : xs.length < 100000) : xs.length < sizeLine := Nat.lt_of_lt_of_le h (by decide)
section
variable {σ : L2.St} {H : Hp} {Q : VK} {v : V} {ta tb te : TE} {r : R2} {i j : Int} {nx : L2.St → Hp → Prop} {rt : VK} {bk ct : L2.St → Hp → Prop} {t u : TS}
theorem st_var {n : Nat} (h : σ[n]? = some (some v)) (q : Q v H) : tVar n σ H Q := ⟨v, h, q⟩
theorem st_c (q : Q v H) : tC v σ H Q := q
theorem st_op (h : ta σ H fun x H1 => tb σ H1 fun y H2 => r x y H2 Q) : tOp r ta tb σ H Q := h
theorem st_un {r : V → Hp → VK → Prop} (h : ta σ H fun x H1 => r x H1 Q) : tUn r ta σ H Q := h
theorem st_I0 {g : Int → Int → V} (q : Q (g i j) H) : rI0 g (.int i) (.int j) H Q := ⟨i, j, rfl, rfl, q⟩
theorem st_I {C : Int → Int → Prop} {g : Int → Int → V} (c : C i j) (q : Q (g i j) H) : rI C g (.int i) (.int j) H Q := ⟨i, j, rfl, rfl, c, q⟩
theorem st_U {g : Int → V} (q : Q (g i) H) : rU g (.int i) H Q := ⟨i, rfl, q⟩
theorem st_eq {x y : V} (c : scal x y = true) (q : Q (.bl (decide (x = y))) H) : rEq x y H Q := ⟨c, q⟩
theorem st_ne {x y : V} (c : scal x y = true) (q : Q (.bl (!decide (x = y))) H) : rNe x y H Q := ⟨c, q⟩
-- tests and truth values
theorem st_tB {R : Bool → Hp → Prop} (h : ta σ H fun x H1 => ∃ c, x = .bl c ∧ R c H1) : tB ta σ H R := h
theorem st_test {R : Bool → Hp → Prop} (h : ta σ H fun x H1 => ∃ c, x = .bl c ∧ R c H1) : tTest ta σ H R := h
theorem st_exb {b : Bool} {R : Bool → Prop} (h : R b) : ∃ c, V.bl b = .bl c ∧ R c := ⟨b, rfl, h⟩
theorem st_and {c d : TT} {R : Bool → Hp → Prop} (h : c σ H fun k H1 => if k = true then d σ H1 R else R false H1) : tAnd c d σ H R := h
theorem st_or {c d : TT} {R : Bool → Hp → Prop} (h : c σ H fun k H1 => if k = true then R true H1 else d σ H1 R) : tOr c d σ H R := h
theorem st_not {c : TT} {R : Bool → Hp → Prop} (h : c σ H fun k H1 => R (!k) H1) : tNot c σ H R := h
theorem st_andV (h : ta σ H fun x H1 => ∃ c, x = .bl c ∧ if c = true then tb σ H1 Q else Q (.bl false) H1) : tAndV ta tb σ H Q := h
theorem st_orV (h : ta σ H fun x H1 => ∃ c, x = .bl c ∧ if c = true then Q (.bl true) H1 else tb σ H1 Q) : tOrV ta tb σ H Q := h
theorem st_notV (h : ta σ H fun x H1 => ∃ c, x = .bl c ∧ Q (.bl (!c)) H1) : tNotV ta σ H Q := h
theorem st_chain {r' : R2} {tc : TE} (h : ta σ H fun x H1 => tb σ H1 fun y H2 => r x y H2 fun z H3 => ∃ k, z = .bl k ∧ (if k = true then tc σ H3 fun w' H4 => r' y w' H4 Q else Q (.bl false) H3)) : tChain r r' ta tb tc σ H Q := h
theorem st_ifE {c : TT} (h : c σ H fun k H1 => if k = true then ta σ H1 Q else tb σ H1 Q) : tIf c ta tb σ H Q := h
theorem st_yes {R : Bool → Hp → Prop} (h : R true H) : tYes σ H R := h
theorem st_iT {A B : Prop} (h : A) : if true = true then A else B := iteT h
theorem st_iF {A B : Prop} (h : B) : if false = true then A else B := iteF h
theorem st_iD {p A B : Prop} [Decidable p] (h1 : p → A) (h2 : ¬p → B) : if decide p = true then A else B := ite2 (fun h => h1 (of_decide_eq_true h)) fun h => h2 fun z => h (decide_eq_true z)
theorem st_iND {p A B : Prop} [Decidable p] (h1 : ¬p → A) (h2 : p → B) : if (!decide p) = true then A else B := by
  by_cases h : p
  · rw [decide_eq_true h]
    exact iteF (h2 h)
  · rw [decide_eq_false h]
    exact iteT (h1 h)
theorem st_iB {c : Bool} {A B : Prop} (h1 : c = true → A) (h2 : c = false → B) : if c = true then A else B := by
  cases c with
  | true => exact iteT (h1 rfl)
  | false => exact iteF (h2 rfl)
theorem st_iNB {c : Bool} {A B : Prop} (h1 : c = false → A) (h2 : c = true → B) : if (!c) = true then A else B := by
  cases c with
  | true => exact iteF (h2 rfl)
  | false => exact iteT (h1 rfl)
theorem st_iDT {p A B : Prop} [Decidable p] (hp : p) (h : A) : if decide p = true then A else B := by
  rw [decide_eq_true hp]; exact iteT h
theorem st_iDF {p A B : Prop} [Decidable p] (hp : ¬p) (h : B) : if decide p = true then A else B := by
  rw [decide_eq_false hp]; exact iteF h
-- statements
theorem st_seq (h : t ⟨u ⟨nx, rt, bk, ct⟩, rt, bk, ct⟩ σ H) : tSeq t u ⟨nx, rt, bk, ct⟩ σ H := h
theorem st_next (h : nx σ H) : tNext ⟨nx, rt, bk, ct⟩ σ H := h
theorem st_set {n : Nat} (h : te σ H fun x H1 => nx (σ.set n (some x)) H1) : tAsg te (gName n) ⟨nx, rt, bk, ct⟩ σ H := h
theorem st_asg {g : TG} (h : te σ H fun x H1 => g x σ H1 nx) : tAsg te g ⟨nx, rt, bk, ct⟩ σ H := h
theorem st_par {n m : Nat} {ta : TA} (h : ta σ H fun vs H1 => ∃ v w, vs = [v, w] ∧ nx ((σ.set n (some v)).set m (some w)) H1) : tPar n m ta ⟨nx, rt, bk, ct⟩ σ H := h
theorem st_par2 {x y : V} {R : V → V → Prop} (h : R x y) : ∃ v w, [x, y] = [v, w] ∧ R v w := ⟨x, y, rfl, h⟩
theorem st_aug {n : Nat} {ti : TIp} {x : V} (hx : σ[n]? = some (some x)) (h : te σ H fun y H1 => ti x y H1 fun z H2 => nx (σ.set n (some z)) H2) : tAug n te ti ⟨nx, rt, bk, ct⟩ σ H := ⟨x, hx, h⟩
theorem st_ipI {f : Int → Int → Int} (q : Q (.int (f i j)) H) : ipI f (.int i) (.int j) H Q := ⟨i, j, rfl, rfl, q⟩
theorem st_drop (h : te σ H fun _ H1 => nx σ H1) : tDrop te ⟨nx, rt, bk, ct⟩ σ H := h
theorem st_ret (h : te σ H rt) : tRet te ⟨nx, rt, bk, ct⟩ σ H := h
theorem st_retN (h : rt .non H) : tRetN ⟨nx, rt, bk, ct⟩ σ H := h
theorem st_ifS {c : TT} (h : c σ H fun b H1 => if b = true then t ⟨nx, rt, bk, ct⟩ σ H1 else u ⟨nx, rt, bk, ct⟩ σ H1) : tIfS c t u ⟨nx, rt, bk, ct⟩ σ H := h
theorem st_brk (h : bk σ H) : tBreak ⟨nx, rt, bk, ct⟩ σ H := h
theorem st_cont (h : ct σ H) : tCont ⟨nx, rt, bk, ct⟩ σ H := h
-- targets
theorem st_gN {n : Nat} {x : V} {R : L2.St → Hp → Prop} (h : R (σ.set n (some x)) H) : gName n x σ H R := h
theorem st_gT {K : PySem.W.Frag} {a : Addr} {xs : List V} {n : Nat} {t : TGs} {R : L2.St → Hp → Prop} (h : SqT K H a xs) (hn : xs.length = n) (q : t xs σ H R) : gTup K n t (.ref a) σ H R := ⟨a, xs, rfl, h, hn, q⟩
theorem st_gC {t : TG} {u : TGs} {x : V} {xs : List V} {R : L2.St → Hp → Prop} (h : t x σ H fun σ' H' => u xs σ' H' R) : gCons t u (x :: xs) σ H R := ⟨x, xs, rfl, h⟩
theorem st_gE {R : L2.St → Hp → Prop} (h : R σ H) : gNil [] σ H R := ⟨rfl, h⟩
theorem st_gS {to ti : TE} {ts : TSet} {x : V} {R : L2.St → Hp → Prop} (h : to σ H fun o H1 => ti σ H1 fun i H2 => ts o i x H2 fun H3 => R σ H3) : gSub to ti ts x σ H R := h
theorem st_setL {R : Hp → Prop} {p : Addr} {xs : List V} {k : Int} {n : Nat} {x : V} (h : H p = some (.lst xs)) (hk : ixN xs.length k = some n) (q : R (upd H p (.lst (xs.set n x)))) : rSetL (.ref p) (.int k) x H R := ⟨p, xs, k, n, rfl, rfl, h, hk, q⟩
-- arguments, displays, calls
theorem st_nil {R : List V → Hp → Prop} (h : R [] H) : tNil σ H R := h
theorem st_cons {t : TA} {R : List V → Hp → Prop} (h : ta σ H fun x H1 => t σ H1 fun xs H2 => R (x :: xs) H2) : tCons ta t σ H R := h
theorem st_lst {t : TA} (h : t σ H fun xs H1 => xs.length ≤ sizeLine ∧ ∀ p, H1 p = none → Q (.ref p) (upd H1 p (.lst xs))) : tLst t σ H Q := h
theorem st_tup {t : TA} (h : t σ H fun xs H1 => xs.length ≤ sizeLine ∧ ∀ p, H1 p = none → Q (.ref p) (upd H1 p (.tup xs))) : tTup t σ H Q := h
theorem st_new {xs : List V} {R : Addr → Prop} (h : xs.length < 100000) (q : ∀ p, H p = none → R p) : xs.length ≤ sizeLine ∧ ∀ p, H p = none → R p := ⟨len_ok h, q⟩
theorem st_call {sp : Sp} {dvs : List V} {E : XK} {t : TA} (h : t σ H fun vs H1 => sp (vs ++ dvs) H1 Q E) : tCall sp dvs E t σ H Q := h
theorem st_callN {n m : Nat} {sp : Sp} {gV : List V → List V → List V} {E : XK} {t tk : TA} (h : t σ H fun vs H1 => tk σ H1 fun zs H2 => vs.length = n ∧ zs.length = m ∧ sp (gV vs zs) H2 Q E) : tCallN n m sp gV E t tk σ H Q := h
theorem st_cb {r : List V → Hp → VK → Prop} {t : TA} (h : t σ H fun vs H1 => r vs H1 Q) : tCB r t σ H Q := h
theorem st_bm {K : PySem.W.Frag} {T : String} {r : V → List V → Hp → VK → Prop} {to : TE} {t : TA} (h : to σ H fun x H1 => tyV K T x H1 ∧ t σ H1 fun xs H2 => r x xs H2 Q) : tBM K T r to t σ H Q := h
theorem st_bm0 {K : PySem.W.Frag} {T : String} {r : V → List V → Hp → VK → Prop} {to : TE} (h : to σ H fun x H1 => tyV K T x H1 ∧ r x [] H1 Q) : tBM0 K T r to σ H Q := h
theorem st_tyL {K : PySem.W.Frag} {p : Addr} {xs : List V} {R : Prop} (h : SqL K H p xs) (q : R) : tyV K "list" (.ref p) H ∧ R := ⟨.inl ⟨rfl, _, h⟩, q⟩
theorem st_ixL {K : PySem.W.Frag} {p : Addr} {xs : List V} (h : SqL K H p xs) (ha : atI xs i = some v) (q : Q v H) : rIxL K (.ref p) (.int i) H Q := ⟨p, xs, i, v, rfl, rfl, h, ha, q⟩
theorem st_ixT {K : PySem.W.Frag} {p : Addr} {xs : List V} (h : SqT K H p xs) (ha : atI xs i = some v) (q : Q v H) : rIxT K (.ref p) (.int i) H Q := ⟨p, xs, i, v, rfl, rfl, h, ha, q⟩
theorem st_app {p : Addr} {xs : List V} {y : V} (h : H p = some (.lst xs)) (hl : xs.length < 100000) (q : Q .non (upd H p (.lst (xs ++ [y])))) : rAppend (.ref p) [y] H Q := ⟨p, xs, y, rfl, rfl, h, len_lt hl, q⟩
theorem st_cat {p b : Addr} {xs zs : List V} (h : H p = some (.lst xs)) (hb : H b = some (.lst zs)) (hl : xs.length + zs.length < 100000) (q : ∀ c, H c = none → Q (.ref c) (upd H c (.lst (xs ++ zs)))) : rCat (.ref p) (.ref b) H Q :=
  ⟨p, b, xs, zs, rfl, rfl, h, hb, Nat.le_trans (Nat.le_of_lt hl) (by decide), q⟩
theorem st_int {R : Int → Prop} {U : Bool → Prop} (q : R i) : (∃ k, ([V.int i] : List V) = [.int k] ∧ R k) ∨ ∃ k, ([V.int i] : List V) = [.bl k] ∧ U k := .inl ⟨i, rfl, q⟩
theorem st_intb {R : Int → Prop} {U : Bool → Prop} {b : Bool} (q : U b) : (∃ k, ([V.bl b] : List V) = [.int k] ∧ R k) ∨ ∃ k, ([V.bl b] : List V) = [.bl k] ∧ U k := .inr ⟨b, rfl, q⟩
theorem st_i1 {R : Int → Prop} (q : R i) : ∃ k, ([V.int i] : List V) = [.int k] ∧ R k := ⟨i, rfl, q⟩
theorem st_i2 {R : Int → Int → Prop} (q : R i j) : ∃ k l, ([V.int i, V.int j] : List V) = [.int k, .int l] ∧ R k l := ⟨i, j, rfl, q⟩
theorem st_len {R : List V → Prop} {K : PySem.W.Frag} {p : Addr} {xs : List V} (h : SqL K H p xs) (q : R xs) : ∃ a ys, ([V.ref p] : List V) = [.ref a] ∧ (SqL K H a ys ∨ SqT K H a ys) ∧ R ys := ⟨p, xs, rfl, .inl h, q⟩
theorem st_lenT {R : List V → Prop} {K : PySem.W.Frag} {p : Addr} {xs : List V} (h : SqT K H p xs) (q : R xs) : ∃ a ys, ([V.ref p] : List V) = [.ref a] ∧ (SqL K H a ys ∨ SqT K H a ys) ∧ R ys := ⟨p, xs, rfl, .inr h, q⟩
theorem st_powL {k : Int} (c : CPow i j) (e : i ^ j.toNat = k) (q : Q (.int k) H) : rI CPow (fun i j => .int (i ^ j.toNat)) (.int i) (.int j) H Q := ⟨i, j, rfl, rfl, c, by subst e; exact q⟩
theorem st_in {K : PySem.W.Frag} {neg : Bool} {p : Addr} {x : V} {xs : List V} (h : SqL K H p xs ∨ SqT K H p xs) (hx : flatV x = true) (hf : xs.all flatV = true) (q : Q (.bl (if neg then !inV x xs else inV x xs)) H) : rIn K neg x (.ref p) H Q := ⟨p, xs, rfl, h, hx, hf, q⟩
end
end Mc
namespace Mc
open PySem PySem.Spec PyProof.Rows L2
theorem at0 {xs : List V} {v : V} (h : xs[0]? = some v) : atI xs 0 = some v := atI_nat (j := 0) h
theorem at1 {xs : List V} {v : V} (h : xs[1]? = some v) : atI xs 1 = some v := atI_nat (j := 1) h
theorem at2 {xs : List V} {v : V} (h : xs[2]? = some v) : atI xs 2 = some v := atI_nat (j := 2) h
theorem at3 {xs : List V} {v : V} (h : xs[3]? = some v) : atI xs 3 = some v := atI_nat (j := 3) h
end Mc
namespace Mc
open PySem PySem.Spec PyProof.Rows L2
section
variable {X : Cx}
theorem call_minI (hc : X.calm = true) : CallR X (.builtin "min") (fun xs H Q => ∃ i j, xs = [.int i, .int j] ∧ Q (.int (min i j)) H) := by
  intro pins s σ H xs us Q I r ⟨i, j, e, q⟩
  refine call_min2 hc pins s σ H xs us Q I r ⟨i, j, e, ?_⟩
  have e2 : (if j < i then j else i) = min i j := by omega
  rw [e2]
  exact q
theorem call_maxI (hc : X.calm = true) : CallR X (.builtin "max") (fun xs H Q => ∃ i j, xs = [.int i, .int j] ∧ Q (.int (max i j)) H) := by
  intro pins s σ H xs us Q I r ⟨i, j, e, q⟩
  refine call_max2 hc pins s σ H xs us Q I r ⟨i, j, e, ?_⟩
  have e2 : (if j > i then j else i) = max i j := by omega
  rw [e2]
  exact q
end
section
variable {σ : L2.St} {H : Hp} {Q : VK} {v : V} {ta tb te : TE} {i j : Int} {nx : L2.St → Hp → Prop} {rt : VK} {bk ct : L2.St → Hp → Prop} {t u : TS} {g : TG} {wi : TI} {tt : TT} {K : PySem.W.Frag}
theorem st_forI (h : wi σ H fun J H1 => ∃ W : Nat → Nat → L2.St → Hp → Prop, (∃ m, W 0 m σ H1) ∧ ∀ i m σ H, W i m σ H →
    (J.stop i H ∧ nx σ H) ∨ (J.go i H ∧ ∃ N : L2.St → Hp → Prop, (∀ σ' H', N σ' H' → ∃ m', m' < m ∧ W (i + 1) m' σ' H') ∧ ∀ x H', J.yld i H x H' → g x σ H' fun σ2 H2 => u ⟨N, rt, nx, N⟩ σ2 H2)) :
    tFor wi g u ⟨nx, rt, bk, ct⟩ σ H := h
theorem st_lcI {vs : List Nat} (h : wi σ H fun J H1 => ∀ D, H1 D = none → ∃ W : Nat → Nat → Hp → Prop, (∃ m, W 0 m (upd H1 D (.lst []))) ∧ ∀ i m H, W i m H →
    (J.stop i H ∧ Q (.ref D) H) ∨ (J.go i H ∧ ∃ Nx : Hp → Prop, (∀ H', Nx H' → ∃ m', m' < m ∧ W (i + 1) m' H') ∧ ∀ x H', J.yld i H x H' → g x (wipe σ vs) H' fun σ2 H2 => wipe σ2 vs = wipe σ vs ∧ tt σ2 H2 fun b H3 =>
      if b = true then te σ2 H3 fun y H4 => ∃ acc, H4 D = some (.lst acc) ∧ acc.length < sizeLine ∧ Nx (upd H4 D (.lst (acc ++ [y]))) else Nx H3)) :
    tLc wi g tt te vs σ H Q := h
theorem st_itL {tl : TE} {R : It → Hp → Prop} (h : tl σ H fun x H1 => ∃ a, x = .ref a ∧ (∃ xs, SqL K H1 a xs) ∧ R (Itl K a) H1) : iList K tl σ H R := h
theorem st_itT {tl : TE} {R : It → Hp → Prop} (h : tl σ H fun x H1 => ∃ a, x = .ref a ∧ (∃ xs, SqT K H1 a xs) ∧ R (Itt K a) H1) : iTup K tl σ H R := h
theorem st_rng1 {ta : TA} {R : It → Hp → Prop} (h : ta σ H fun vs H1 => ∃ j : Int, vs = [.int j] ∧ -(2 ^ 62) ≤ j ∧ j < 2 ^ 62 ∧ R (Itr 0 j.toNat) H1) : iRng1 ta σ H R := h
theorem st_rng2 {ta : TA} {R : It → Hp → Prop} (h : ta σ H fun vs H1 => ∃ i j : Int, vs = [.int i, .int j] ∧ (-(2 ^ 62) ≤ i ∧ i < 2 ^ 62 ∧ -(2 ^ 62) ≤ j ∧ j < 2 ^ 62) ∧ R (Itr i (j - i).toNat) H1) : iRng2 ta σ H R := h
theorem st_ref {a : Addr} {R : Addr → Prop} (h : R a) : ∃ b, V.ref a = .ref b ∧ R b := ⟨a, rfl, h⟩
theorem q_of {Q : VK} {v v' : V} {H : Hp} (q : Q v H) (e : v' = v) : Q v' H := by rw [e]; exact q
theorem in_int {i : Int} : ∀ {ns : List Int}, inV (.int i) (ns.map V.int) = decide (i ∈ ns)
  | [] => by simp [inV]
  | n :: ns => by
    have h := @in_int i ns
    simp only [inV] at h ⊢
    simp only [List.map_cons, List.any_cons, h, List.mem_cons]
    by_cases e : i = n
    · subst e; simp [eqV]
    · have e2 : ¬ n = i := fun z => e z.symm
      simp [eqV, e, e2]
theorem flat_ints : ∀ (ns : List Int), (ns.map V.int).all flatV = true
  | [] => rfl
  | n :: ns => by
    rw [List.map_cons, List.all_cons, flat_ints ns]
    rfl
end
end Mc
namespace Mc
open PySem PySem.Spec PyProof.Rows L2
section
variable {K : PySem.W.Frag} {a : Addr} {xs : List V} {g : TG} {tb : TS} {nx : L2.St → Hp → Prop} {rt : VK} {σ : L2.St} {H : Hp}
theorem fL (Pv : Nat → L2.St → Hp → Prop) (h0 : Pv 0 σ H) (hl : ∀ i σ H, i ≤ xs.length → Pv i σ H → SqL K H a xs)
    (hs : ∀ i x σ H, xs[i]? = some x → Pv i σ H → g x σ H fun σ2 H2 => tb ⟨Pv (i + 1), rt, nx, Pv (i + 1)⟩ σ2 H2) (hd : ∀ σ H, Pv xs.length σ H → nx σ H) :
    ∃ W : Nat → Nat → L2.St → Hp → Prop, (∃ m, W 0 m σ H) ∧ ∀ i m σ H, W i m σ H →
      ((Itl K a).stop i H ∧ nx σ H) ∨ ((Itl K a).go i H ∧ ∃ N : L2.St → Hp → Prop, (∀ σ' H', N σ' H' → ∃ m', m' < m ∧ W (i + 1) m' σ' H') ∧ ∀ x H', (Itl K a).yld i H x H' → g x σ H' fun σ2 H2 => tb ⟨N, rt, nx, N⟩ σ2 H2) :=
  for_list (D := ⟨nx, rt, nx, nx⟩) Pv h0 hl hs hd
theorem fT (Pv : Nat → L2.St → Hp → Prop) (h0 : Pv 0 σ H) (hl : ∀ i σ H, i ≤ xs.length → Pv i σ H → SqT K H a xs)
    (hs : ∀ i x σ H, xs[i]? = some x → Pv i σ H → g x σ H fun σ2 H2 => tb ⟨Pv (i + 1), rt, nx, Pv (i + 1)⟩ σ2 H2) (hd : ∀ σ H, Pv xs.length σ H → nx σ H) :
    ∃ W : Nat → Nat → L2.St → Hp → Prop, (∃ m, W 0 m σ H) ∧ ∀ i m σ H, W i m σ H →
      ((Itt K a).stop i H ∧ nx σ H) ∨ ((Itt K a).go i H ∧ ∃ N : L2.St → Hp → Prop, (∀ σ' H', N σ' H' → ∃ m', m' < m ∧ W (i + 1) m' σ' H') ∧ ∀ x H', (Itt K a).yld i H x H' → g x σ H' fun σ2 H2 => tb ⟨N, rt, nx, N⟩ σ2 H2) :=
  for_tup (D := ⟨nx, rt, nx, nx⟩) Pv h0 hl hs hd
theorem fR {lo : Int} {n : Nat} (Pv : Nat → L2.St → Hp → Prop) (h0 : Pv 0 σ H)
    (hs : ∀ i σ H, i < n → Pv i σ H → g (.int (lo + i)) σ H fun σ2 H2 => tb ⟨Pv (i + 1), rt, nx, Pv (i + 1)⟩ σ2 H2) (hd : ∀ σ H, Pv n σ H → nx σ H) :
    ∃ W : Nat → Nat → L2.St → Hp → Prop, (∃ m, W 0 m σ H) ∧ ∀ i m σ H, W i m σ H →
      ((Itr lo n).stop i H ∧ nx σ H) ∨ ((Itr lo n).go i H ∧ ∃ N : L2.St → Hp → Prop, (∀ σ' H', N σ' H' → ∃ m', m' < m ∧ W (i + 1) m' σ' H') ∧ ∀ x H', (Itr lo n).yld i H x H' → g x σ H' fun σ2 H2 => tb ⟨N, rt, nx, N⟩ σ2 H2) :=
  for_range (D := ⟨nx, rt, nx, nx⟩) Pv h0 hs hd
/-- the items of a list of ints -/
theorem int_at {ns : List Int} {i : Nat} {x : V} (h : (ns.map V.int)[i]? = some x) : ∃ k, ns[i]? = some k ∧ x = .int k := by
  rw [List.getElem?_map] at h
  cases e : ns[i]? with
  | none => rw [e] at h; cases h
  | some k => rw [e] at h; exact ⟨k, rfl, (Option.some.inj h).symm⟩
end
end Mc
namespace Mc
open PySem PySem.Spec PyProof.Rows L2
/-- these values are these ints -/
inductive IsI : List V → List Int → Prop
  | nil : IsI [] []
  | cons {n : Int} {xs : List V} {ns : List Int} : IsI xs ns → IsI (.int n :: xs) (n :: ns)
theorem IsI.eq : ∀ {xs : List V} {ns : List Int}, IsI xs ns → xs = ns.map V.int
  | _, _, .nil => rfl
  | _, _, .cons h => by rw [h.eq]; rfl
theorem isI_map : ∀ ns : List Int, IsI (ns.map V.int) ns
  | [] => .nil
  | _ :: ns => .cons (isI_map ns)
theorem at_int {ns : List Int} {i : Int} (h0 : 0 ≤ i) (h1 : i < ns.length) : ∃ k, ns[i.toNat]? = some k ∧ atI (ns.map V.int) i = some (.int k) := by
  have hl : i.toNat < ns.length := by omega
  refine ⟨ns[i.toNat], List.getElem?_eq_getElem hl, ?_⟩
  have e : ((i.toNat : Nat) : Int) = i := by omega
  have h := atI_nat (xs := ns.map V.int) (j := i.toNat) (v := .int ns[i.toNat]) (by rw [List.getElem?_map, List.getElem?_eq_getElem hl]; rfl)
  rw [e] at h
  exact h
section
variable {H : Hp} {Q : VK} {i : Int} {K : PySem.W.Frag}
theorem st_ixP {p : Addr} {xs : List V} {ns : List Int} (h : SqL K H p xs) (e : IsI xs ns) (h0 : 0 ≤ i) (h1 : i < ns.length) (q : ∀ k, ns[i.toNat]? = some k → Q (.int k) H) : rIxL K (.ref p) (.int i) H Q := by
  obtain ⟨k, hk, ha⟩ := at_int h0 h1
  rw [e.eq] at h
  exact ⟨p, _, i, _, rfl, rfl, h, ha, q k hk⟩
theorem st_ixPT {p : Addr} {xs : List V} {ns : List Int} (h : SqT K H p xs) (e : IsI xs ns) (h0 : 0 ≤ i) (h1 : i < ns.length) (q : ∀ k, ns[i.toNat]? = some k → Q (.int k) H) : rIxT K (.ref p) (.int i) H Q := by
  obtain ⟨k, hk, ha⟩ := at_int h0 h1
  rw [e.eq] at h
  exact ⟨p, _, i, _, rfl, rfl, h, ha, q k hk⟩
end
theorem Same.by {S : Addr} {H0 H H' : Hp} (a : Same H0 H) (n : H0 S = none) (f : Frm S H H') : Same H0 H' := fun b o e => f b o (ne_of_none e n) (a b o e)
end Mc
namespace Mc
open PySem PySem.Spec PyProof.Rows L2
theorem ne_nf {H : Hp} {a b : Addr} {o : HO} (h' : H b = none) (h : H a = some o) : a ≠ b := ne_of_none h h'
end Mc
namespace Mc
open PySem PySem.Spec PyProof.Rows L2
theorem Frm.tr {S : Addr} {H H1 H2 : Hp} (b : Frm S H1 H2) (a : Frm S H H1) : Frm S H H2 := a.trans b
theorem Frm.trN {S p : Addr} {o : HO} {H H1 : Hp} (b : H1 p = none) (a : Frm S H H1) : Frm S H (upd H1 p o) := a.trans (Same.frm (Same.new b))
theorem Frm.trS {S : Addr} {H H1 H2 : Hp} (b : Same H1 H2) (a : Frm S H H1) : Frm S H H2 := a.trans (Same.frm b)
theorem Frm.trU {S : Addr} {o : HO} {H H1 : Hp} (a : Frm S H H1) : Frm S H (upd H1 S o) := a.trans Frm.set
theorem same_tr {H H1 H2 : Hp} (b : Same H1 H2) (a : Same H H1) : Same H H2 := a.trans b
theorem same_trN {p : Addr} {o : HO} {H H1 : Hp} (b : H1 p = none) (a : Same H H1) : Same H (upd H1 p o) := a.trans (Same.new b)
/-- an object that H does not know may change -/
theorem same_trU {p : Addr} {o : HO} {H H1 : Hp} (n : H p = none) (a : Same H H1) : Same H (upd H1 p o) := fun b u e => by
  rw [upd_ne (ne_of_none e n)]
  exact a b u e
theorem same_free {H H' : Hp} {p : Addr} (n : H' p = none) (a : Same H H') : H p = none := a.free n
theorem frm_free {S p : Addr} {H H' : Hp} (n : H' p = none) (k : p ≠ S) (a : Frm S H H') : H p = none := a.free k n
end Mc
namespace Mc
open PySem PySem.Spec PyProof.Rows L2
theorem Frm.trM {S p : Addr} {o : HO} {H H1 : Hp} (n : H p = none) (a : Frm S H H1) : Frm S H (upd H1 p o) := fun b u k e => by
  rw [upd_ne (ne_of_none e n)]
  exact a b u k e
end Mc
/-! the calendar; data -/
namespace Mc
open PySem PySem.Spec PyProof.Rows L2
/-! ### years and months -/
def leap (y : Int) : Bool := (decide (y % 4 = 0) && !decide (y % 100 = 0)) || decide (y % 400 = 0)
def mlen (y m : Int) : Int := if m = 2 then (if leap y = true then 29 else 28) else if m = 4 ∨ m = 6 ∨ m = 9 ∨ m = 11 then 30 else 31
def dateOk (y m d : Int) : Bool := decide ((1 ≤ m ∧ m ≤ 12) ∧ 1 ≤ d ∧ d ≤ mlen y m)
/-- the length of the month with a number -/
def lenN (n : Int) : Int := mlen (n / 12) (n % 12 + 1)
theorem mlen_bd (y m : Int) : 28 ≤ mlen y m ∧ mlen y m ≤ 31 := by
  unfold mlen
  split
  · split <;> omega
  · split <;> omega
theorem lenN_bd (n : Int) : 28 ≤ lenN n ∧ lenN n ≤ 31 := mlen_bd _ _
theorem lenN_ym {y m : Int} (h0 : 0 ≤ m) (h1 : m < 12) : lenN (12 * y + m) = mlen y (m + 1) := by
  unfold lenN
  rw [show (12 * y + m) / 12 = y by omega, show (12 * y + m) % 12 = m by omega]
theorem mlen_any {y y' m : Int} (h : m ≠ 2) : mlen y m = mlen y' m := by
  unfold mlen
  rw [if_neg h, if_neg h]
theorem mlen_days : ∀ m : _root_.Fin 12, (m : Nat) ≠ 1 → ([31, 0, 31, 30, 31, 30, 31, 31, 30, 31, 30, 31] : List Int)[(m : Nat)]? = some (mlen 0 ((m : Nat) + 1 : Int)) := by decide
theorem lenN_days {n k : Int} (h : n % 12 ≠ 1) (hk : ([31, 0, 31, 30, 31, 30, 31, 31, 30, 31, 30, 31] : List Int)[(n % 12).toNat]? = some k) : k = lenN n := by
  have h2 := mlen_days ⟨(n % 12).toNat, by omega⟩ (by show (n % 12).toNat ≠ 1; omega)
  have h3 := hk.symm.trans h2
  have e : ((((n % 12).toNat : Nat) : Int) + 1) = n % 12 + 1 := by omega
  have h4 : k = mlen 0 ((((n % 12).toNat : Nat) : Int) + 1) := Option.some.inj h3
  rw [h4, e]
  exact mlen_any (by omega)
theorem leap_cyc (y k : Int) : leap (y + 400 * k) = leap y := by
  have h1 : (y + 400 * k) % 4 = y % 4 := by omega
  have h2 : (y + 400 * k) % 100 = y % 100 := by omega
  have h3 : (y + 400 * k) % 400 = y % 400 := by omega
  simp only [leap, h1, h2, h3]
theorem lenN_cyc (n k : Int) : lenN (n + 4800 * k) = lenN n := by
  unfold lenN
  rw [show (n + 4800 * k) / 12 = n / 12 + 400 * k by omega, show (n + 4800 * k) % 12 = n % 12 by omega]
  unfold mlen
  rw [leap_cyc]
/-! ### dates: the number of the month, the day -/
abbrev Dt : Type := Int × Int
def dT (s : Dt) : List V := [.int (s.1 / 12), .int (s.1 % 12 + 1), .int s.2]
def okS (s : Dt) : Prop := 1 ≤ s.2 ∧ s.2 ≤ lenN s.1
theorem okS_ok {s : Dt} (h : okS s) : dateOk (s.1 / 12) (s.1 % 12 + 1) s.2 = true := decide_eq_true ⟨by omega, h⟩
theorem num_eq (n : Int) : 12 * (n / 12) + (n % 12 + 1) - 1 = n := by omega
theorem dT_ym {y m d : Int} (h0 : 1 ≤ m) (h1 : m ≤ 12) : dT (12 * y + m - 1, d) = [.int y, .int m, .int d] := by
  unfold dT
  show [V.int ((12 * y + m - 1) / 12), .int ((12 * y + m - 1) % 12 + 1), .int d] = _
  rw [show (12 * y + m - 1) / 12 = y by omega, show (12 * y + m - 1) % 12 + 1 = m by omega]
theorem okS_ym {y m d : Int} (h : dateOk y m d = true) : okS (12 * y + m - 1, d) := by
  obtain ⟨⟨h0, h1⟩, h2, h3⟩ := of_decide_eq_true h
  refine ⟨h2, ?_⟩
  show d ≤ lenN (12 * y + m - 1)
  rw [show 12 * y + m - 1 = 12 * y + (m - 1) by omega, lenN_ym (by omega) (by omega), show m - 1 + 1 = m by omega]
  exact h3
/-- one step -/
def mvS (s : Dt) (k : Int) : Dt := (s.1 + k, min s.2 (lenN (s.1 + k)))
def mvL (s : Dt) (ns : List Int) : Dt := ns.foldl mvS s
theorem fold_at {α β : Type} {f : β → α → β} {b : β} {xs : List α} {i : Nat} {x : α} (h : xs[i]? = some x) : (xs.take (i + 1)).foldl f b = f ((xs.take i).foldl f b) x := by
  rw [List.take_add_one, h]
  simp only [Option.toList, List.foldl_append, List.foldl_cons, List.foldl_nil]
theorem okS_mv {s : Dt} (h : okS s) (k : Int) : okS (mvS s k) := by
  have := lenN_bd (s.1 + k)
  unfold okS mvS at *
  simp only
  omega
theorem okS_mvL : ∀ {ns : List Int} {s : Dt}, okS s → okS (mvL s ns)
  | [], _, h => h
  | k :: ns, s, h => okS_mvL (ns := ns) (okS_mv h k)
/-! ### least items -/
theorem foldl_min_le : ∀ (l : List Int) (a : Int), l.foldl min a ≤ a ∧ ∀ x ∈ l, l.foldl min a ≤ x
  | [], a => ⟨Int.le_refl _, fun x h => by cases h⟩
  | b :: l, a => by
    obtain ⟨h1, h2⟩ := foldl_min_le l (min a b)
    refine ⟨by simp only [List.foldl_cons]; omega, fun x h => ?_⟩
    simp only [List.foldl_cons]
    rcases List.mem_cons.mp h with e | e
    · subst e; omega
    · exact h2 x e
theorem foldl_min_mem : ∀ (l : List Int) (a : Int), l.foldl min a ∈ a :: l
  | [], a => by simp
  | b :: l, a => by
    have h := foldl_min_mem l (min a b)
    simp only [List.foldl_cons]
    rcases List.mem_cons.mp h with e | e
    · rw [e]
      rcases Int.le_total a b with q | q
      · rw [Int.min_eq_left q]; simp
      · rw [Int.min_eq_right q]; simp
    · exact List.mem_cons_of_mem _ (List.mem_cons_of_mem _ e)
theorem min_eq {l : List Int} {a m : Int} (h1 : m ∈ a :: l) (h2 : ∀ y, y ∈ a :: l → m ≤ y) : m = l.foldl min a := by
  obtain ⟨q1, q2⟩ := foldl_min_le l a
  have e1 : m ≤ l.foldl min a := h2 _ (foldl_min_mem l a)
  rcases List.mem_cons.mp h1 with e | e
  · omega
  · have := q2 _ e; omega
/-! ### renewals -/
def anN (s : Dt) (k t : Int) : Dt := mvS s (k * t)
def rnL (n s : Int) (k : Nat) : List Int := (List.range k).map fun (i : Nat) => lenN (n + s * (i : Int))
def rnN (s : Dt) (k t : Int) : Dt := (s.1 + k * t, (rnL s.1 k ((min t 4800).toNat + 1)).foldl min s.2)
theorem rnL_succ (n s : Int) (k : Nat) : rnL n s (k + 1) = rnL n s k ++ [lenN (n + s * (k : Int))] := by
  unfold rnL
  rw [List.range_succ, List.map_append]
  rfl
theorem rnL_len (n s : Int) (k : Nat) : (rnL n s k).length = k := by simp [rnL]
/-- great numbers' bound -/
def Big (i : Int) : Prop := i.natAbs < 2 ^ 2000
theorem big_of {i : Int} (h0 : -1000000000000000000000000000000000000000000000000000000000000 ≤ i) (h1 : i ≤ 1000000000000000000000000000000000000000000000000000000000000) : Big i := by
  unfold Big
  have : (1000000000000000000000000000000000000000000000000000000000000 : Nat) < 2 ^ 2000 := by decide
  omega
theorem nat_of {i : Int} {b : Nat} (h0 : 0 ≤ i) (h : i < (2 ^ b : Nat)) : i.natAbs < 2 ^ b := by omega
/-! ### data -/
def dD (s : Dt) : PyData := .tuple [.int (s.1 / 12), .int (s.1 % 12 + 1), .int s.2]
section
variable {K : PySem.W.Frag} {H : Hp} {Q : VK}
theorem dp_date {a : Addr} {s : Dt} (h : H a = some (.tup (dT s))) : Dp K H (.ref a) (dD s) := .tup (SqT.of h) (.cons (.int _) (.cons (.int _) (.cons (.int _) .nil)))
theorem st_eqD {x y : V} {d : PyData} (hx : Dp K H x d) (hy : Dp K H y d) (hs : SeqAt.shaped d = true) (q : Q (.bl true) H) : rEqD K x y H Q :=
  ⟨d, d, hx, hy, hs, hs, by rw [SeqAt.eqv_refl d (SeqAt.canLay_of_shaped hs)]; exact q⟩
theorem st_neD {x y : V} {d : PyData} (hx : Dp K H x d) (hy : Dp K H y d) (hs : SeqAt.shaped d = true) (q : Q (.bl false) H) : rNeD K x y H Q :=
  ⟨d, d, hx, hy, hs, hs, by rw [SeqAt.eqv_refl d (SeqAt.canLay_of_shaped hs)]; exact q⟩
theorem sh_dD (s : Dt) : SeqAt.shaped (dD s) = true := rfl
theorem st_cutK {t : TE} {σ : L2.St} {C : VK} (P : VK) (hk : ∀ v H', P v H' → C v H') (h : ∀ C' : VK, (∀ v H', P v H' → C' v H') → t σ H C') : t σ H C := h C hk
theorem st_cutS {t : TS} {σ : L2.St} {nx : L2.St → Hp → Prop} {rt : VK} {bk ct : L2.St → Hp → Prop} (P : L2.St → Hp → Prop) (hk : ∀ σ H', P σ H' → nx σ H') (h : ∀ nx' : L2.St → Hp → Prop, (∀ σ H', P σ H' → nx' σ H') → t ⟨nx', rt, bk, ct⟩ σ H) : t ⟨nx, rt, bk, ct⟩ σ H := h nx hk
theorem st_slT {a : Addr} {xs : List V} {lo hi : Option Int} (h : SqT K H a xs) (hw : ¬ (HT.sIx xs.length 0 lo = 0 ∧ HT.sIx xs.length xs.length hi = xs.length)) (q : ∀ p, H p = none → Q (.ref p) (upd H p (.tup (cutV xs lo hi)))) : rSlT K (.ref a) lo hi H Q := ⟨a, xs, rfl, h, hw, q⟩
theorem st_slL {a : Addr} {xs : List V} {lo hi : Option Int} (h : SqL K H a xs) (q : ∀ p, H p = none → Q (.ref p) (upd H p (.lst (cutV xs lo hi)))) : rSlL K (.ref a) lo hi H Q := ⟨a, xs, rfl, h, q⟩
theorem st_sl {r : V → Option Int → Option Int → Hp → VK → Prop} {te : TE} {tl th : TO} {σ : L2.St} (h : te σ H fun x H1 => tl σ H1 fun l H2 => th σ H2 fun u H3 => r x l u H3 Q) : tSl r te tl th σ H Q := h
theorem st_pN {σ : L2.St} {R : Option Int → Hp → Prop} (h : R none H) : tNoPart σ H R := h
theorem st_pS {t : TE} {σ : L2.St} {R : Option Int → Hp → Prop} (h : t σ H fun x H1 => ∃ i, x = .int i ∧ R (some i) H1) : tPart t σ H R := h
theorem st_pI {i : Int} {R : Int → Prop} (h : R i) : ∃ k, V.int i = .int k ∧ R k := ⟨i, rfl, h⟩
theorem st_rep {l : Addr} {k : Int} {xs : List V} (h : H l = some (.lst xs)) (h0 : -(2 ^ 63) ≤ k) (h1 : k < 2 ^ 63) (hl : xs.length * k.toNat ≤ 100000) (q : ∀ p, H p = none → Q (.ref p) (upd H p (.lst (List.replicate k.toNat xs).flatten))) : rRep (.ref l) (.int k) H Q :=
  ⟨l, k, xs, rfl, rfl, h, h0, h1, Nat.le_trans hl (by decide), q⟩
theorem call_absI {X : Cx} : CallR X (.builtin "abs") (fun xs H Q => ∃ i, xs = [.int i] ∧ Q (.int (max i (-i))) H) := by
  intro pins s σ H xs us Q I r ⟨i, e, q⟩
  refine call_abs pins s σ H xs us Q I r ⟨i, e, ?_⟩
  have e2 : (if i < 0 then -i else i) = max i (-i) := by omega
  rw [e2]
  exact q
end
end Mc
namespace Mc
open PySem PySem.Spec PyProof.Rows L2
/-! ### renewals: the laws -/
theorem mvS_zero {s : Dt} (h : okS s) : mvS s 0 = s := by
  obtain ⟨n, d⟩ := s
  have h2 : d ≤ lenN n := h.2
  unfold mvS
  simp only [Int.add_zero]
  rw [Int.min_eq_left h2]
theorem anN_zero {s : Dt} (h : okS s) (k : Int) : anN s k 0 = s := by
  unfold anN
  rw [Int.mul_zero]
  exact mvS_zero h
theorem anN_one (s : Dt) (k : Int) : anN s k 1 = mvS s k := by
  unfold anN
  rw [Int.mul_one]
theorem rnN_zero {s : Dt} (h : okS s) (k : Int) : rnN s k 0 = s := by
  obtain ⟨n, d⟩ := s
  have h2 : d ≤ lenN n := h.2
  unfold rnN
  show (n + k * 0, ([lenN (n + k * ((0 : Nat) : Int))] : List Int).foldl min d) = (n, d)
  simp only [List.foldl_cons, List.foldl_nil, Int.mul_zero, Int.add_zero, Int.ofNat_zero, Int.natCast_zero]
  rw [Int.min_eq_left h2]
theorem rnN_one {s : Dt} (h : okS s) (k : Int) : rnN s k 1 = mvS s k := by
  obtain ⟨n, d⟩ := s
  have h2 : d ≤ lenN n := h.2
  unfold rnN mvS
  show (n + k * 1, ([lenN (n + k * ((0 : Nat) : Int)), lenN (n + k * ((1 : Nat) : Int))] : List Int).foldl min d) = (n + k, min d (lenN (n + k)))
  have e0 : n + k * ((0 : Nat) : Int) = n := by simp
  have e1 : n + k * ((1 : Nat) : Int) = n + k := by simp
  rw [e0, e1, Int.mul_one]
  simp only [List.foldl_cons, List.foldl_nil]
  rw [Int.min_eq_left h2]
theorem rn_mem {n s : Int} {k i : Nat} (h : i < k) : lenN (n + s * (i : Int)) ∈ rnL n s k := List.mem_map.mpr ⟨i, List.mem_range.mpr h, rfl⟩
theorem rnN_le {s : Dt} {k t : Int} (ht : 0 ≤ t) : (rnN s k t).2 ≤ (anN s k t).2 := by
  obtain ⟨h1, h2⟩ := foldl_min_le (rnL s.1 k ((min t 4800).toNat + 1)) s.2
  have h3 : (rnN s k t).2 ≤ lenN (s.1 + k * t) := by
    by_cases h : t ≤ 4800
    · have q := h2 _ (rn_mem (n := s.1) (s := k) (i := t.toNat) (by omega))
      have e : ((t.toNat : Nat) : Int) = t := by omega
      rw [e] at q
      exact q
    · have q := h2 _ (rn_mem (n := s.1) (s := k) (i := (t % 4800).toNat) (by omega))
      have e : (((t % 4800).toNat : Nat) : Int) = t % 4800 := by omega
      rw [e, ← lenN_cyc _ (k * (t / 4800))] at q
      have e2 : s.1 + k * (t % 4800) + 4800 * (k * (t / 4800)) = s.1 + k * t := by
        rw [Int.mul_left_comm, Int.add_assoc, ← Int.mul_add, Int.emod_add_mul_ediv]
      rw [e2] at q
      exact q
  have h4 : (anN s k t).2 = min s.2 (lenN (s.1 + k * t)) := rfl
  have h5 : (rnN s k t).2 ≤ s.2 := h1
  omega
end Mc
namespace Mc
open PySem PySem.Spec PyProof.Rows L2
/-- behind a statement that stores nothing: what base knows stands -/
theorem st_cutI {t : TS} {σ : L2.St} {H : Hp} {nx : L2.St → Hp → Prop} {rt : VK} {bk ct : L2.St → Hp → Prop} (base : Hp) (hk : ∀ H', Same base H' → nx σ H')
    (h : ∀ nx' : L2.St → Hp → Prop, (∀ H', Same base H' → nx' σ H') → t ⟨nx', rt, bk, ct⟩ σ H) : t ⟨nx, rt, bk, ct⟩ σ H := h nx hk
theorem cutV_two {a b c : V} : cutV [a, b, c] none (some 2) = [a, b] := by
  unfold cutV
  rfl
theorem dT_fst {s s' : Dt} (h : s.1 = s'.1) : cutV (dT s) none (some 2) = cutV (dT s') none (some 2) := by
  unfold dT
  rw [cutV_two, cutV_two, h]
end Mc
namespace Mc
open PySem PySem.Spec PyProof.Rows L2
section
variable {σ : L2.St} {H : Hp} {te : TE} {nx : L2.St → Hp → Prop} {rt : VK} {bk ct : L2.St → Hp → Prop}
theorem st_setF {n : Nat} {f : V → L2.St} (e : ∀ x, List.set σ n (some x) = f x) (h : te σ H fun x H1 => nx (f x) H1) : tAsg te (gName n) ⟨nx, rt, bk, ct⟩ σ H := by
  have e2 : (fun x => List.set σ n (some x)) = f := funext e
  subst e2
  exact h
theorem st_gNF {n : Nat} {x : V} {σ' : L2.St} {R : L2.St → Hp → Prop} (e : List.set σ n (some x) = σ') (h : R σ' H) : gName n x σ H R := by
  subst e
  exact h
theorem st_parF {n m : Nat} {ta : TA} {f : V → V → L2.St} (e : ∀ v w, (List.set σ n (some v)).set m (some w) = f v w) (h : ta σ H fun vs H1 => ∃ v w, vs = [v, w] ∧ nx (f v w) H1) : tPar n m ta ⟨nx, rt, bk, ct⟩ σ H := by
  have e2 : (fun v w => (List.set σ n (some v)).set m (some w)) = f := funext fun v => funext (e v)
  subst e2
  exact h
theorem st_augF {n : Nat} {ti : TIp} {x : V} {f : V → L2.St} (hx : σ[n]? = some (some x)) (e : ∀ z, List.set σ n (some z) = f z) (h : te σ H fun y H1 => ti x y H1 fun z H2 => nx (f z) H2) : tAug n te ti ⟨nx, rt, bk, ct⟩ σ H := by
  have e2 : (fun z => List.set σ n (some z)) = f := funext e
  subst e2
  exact ⟨x, hx, h⟩
end
end Mc
namespace Mc
open PySem PySem.Spec PyProof.Rows L2
section
variable {K : PySem.W.Frag} {H : Hp} {Q : VK}
theorem tyx_list {a : Addr} {xs : List V} (h : SqL K H a xs) : TyX K H (.ref a) (.type "list") := by
  rcases h with (h | ⟨o, h⟩) | ⟨o, _, _, h, hc, _⟩
  · exact .base (.lst h)
  · exact .base (.frz h)
  · exact .kList h hc
theorem tyx_tup {a : Addr} {xs : List V} (h : SqT K H a xs) : TyX K H (.ref a) (.type "tuple") := by
  rcases h with (h | ⟨o, h⟩) | ⟨o, _, _, h, hc, _⟩
  · exact .base (.tup h)
  · exact .fTuple h
  · exact .kTuple h hc
theorem st_isi {x : V} {t n : String} {b : Bool} (hx : TyX K H x (.type t)) (e : kitB t n = some b) (q : Q (.bl b) H) : rIsi K [x, .ty n] H Q := ⟨x, .ty n, .type t, .type n, b, rfl, .ty n, hx, kit_ty e, q⟩
/-- the type's name of plain data -/
def tyN : PyData → String
  | .none => "NoneType" | .bool _ => "bool" | .int _ => "int" | .str _ => "str" | .list _ => "list" | .tuple _ => "tuple" | .dict _ => "dict"
theorem tyx_dp {x : V} {d : PyData} (h : Dp K H x d) : TyX K H x (.type (tyN d)) := by
  cases h with
  | non => exact .base .non
  | bl b => exact .base (.bl b)
  | int i => exact .base (.int i)
  | str x => exact .base (.str x)
  | lst h _ => exact tyx_list h
  | tup h _ => exact tyx_tup h
theorem st_isiD {x : V} {d : PyData} {n : String} {b : Bool} (hx : Dp K H x d) (e : kitB (tyN d) n = some b) (q : Q (.bl b) H) : rIsi K [x, .ty n] H Q := st_isi (tyx_dp hx) e q
mutual
theorem Dp.same {H' : Hp} (e : Same H H') : ∀ {d : PyData} {x : V}, Dp K H x d → Dp K H' x d
  | _, _, .non => .non
  | _, _, .bl b => .bl b
  | _, _, .int i => .int i
  | _, _, .str x => .str x
  | _, _, .lst h a => .lst (e.seq h) (DpAll.same e a)
  | _, _, .tup h a => .tup (Same.tup e h) (DpAll.same e a)
theorem DpAll.same {H' : Hp} (e : Same H H') : ∀ {ds : List PyData} {xs : List V}, DpAll K H xs ds → DpAll K H' xs ds
  | _, _, .nil => .nil
  | _, _, .cons h a => .cons (Dp.same e h) (DpAll.same e a)
end
theorem DpAll.len : ∀ {xs : List V} {ds : List PyData}, DpAll K H xs ds → xs.length = ds.length
  | _, _, .nil => rfl
  | _, _, .cons _ a => by rw [List.length_cons, List.length_cons, DpAll.len a]
theorem DpAll.get : ∀ {xs : List V} {ds : List PyData} {i : Nat} {x : V}, DpAll K H xs ds → xs[i]? = some x → ∃ d, ds[i]? = some d ∧ Dp K H x d
  | _, _, _, _, .nil, h => by cases h
  | _, _, 0, _, .cons h _, e => by cases e; exact ⟨_, rfl, h⟩
  | _ :: vs, _ :: ds, i + 1, x, .cons _ a, e => by
    have e2 : vs[i]? = some x := e
    obtain ⟨d, h1, h2⟩ := DpAll.get a e2
    exact ⟨d, h1, h2⟩
end
theorem lay_get : ∀ {ds : List PyData} {i : Nat} {d : PyData}, PyData.canLayAll0 ds = true → ds[i]? = some d → d.canLay0 = true
  | [], _, _, _, h => by cases h
  | d :: ds, 0, _, hl, h => by
    cases h
    unfold PyData.canLayAll0 at hl
    exact (Bool.and_eq_true_iff.mp hl).1
  | d :: ds, i + 1, _, hl, h => by
    unfold PyData.canLayAll0 at hl
    exact lay_get (Bool.and_eq_true_iff.mp hl).2 h
theorem depth_get : ∀ {ds : List PyData} {i : Nat} {d : PyData}, ds[i]? = some d → d.depth ≤ PyData.depthAll ds
  | [], _, _, h => by cases h
  | d :: ds, 0, _, h => by
    cases h
    unfold PyData.depthAll
    exact Nat.le_max_left _ _
  | d :: ds, i + 1, _, h => by
    unfold PyData.depthAll
    exact Nat.le_trans (depth_get (ds := ds) h) (Nat.le_max_right _ _)
end Mc
namespace Mc
theorem lenN_feb {n : Int} (h : n % 12 = 1) : (28 + if leap (n / 12) = true then 1 else 0) = lenN n := by
  have h2 : n % 12 + 1 = 2 := by omega
  unfold lenN mlen
  rw [if_pos h2]
  cases leap (n / 12) <;> rfl
theorem lenN_oth {n : Int} (h : ¬ n % 12 = 1) : (31 - if decide (n % 12 ∈ [3, 5, 8, 10]) = true then 1 else 0) = lenN n := by
  have h2 : ¬ n % 12 + 1 = 2 := by omega
  unfold lenN mlen
  rw [if_neg h2]
  by_cases q : n % 12 ∈ [3, 5, 8, 10]
  · have q2 := q
    simp only [List.mem_cons, List.not_mem_nil, or_false] at q2
    have h3 : n % 12 + 1 = 4 ∨ n % 12 + 1 = 6 ∨ n % 12 + 1 = 9 ∨ n % 12 + 1 = 11 := by omega
    rw [decide_eq_true q, if_pos h3]
    rfl
  · have q2 := q
    simp only [List.mem_cons, List.not_mem_nil, or_false] at q2
    have h3 : ¬ (n % 12 + 1 = 4 ∨ n % 12 + 1 = 6 ∨ n % 12 + 1 = 9 ∨ n % 12 + 1 = 11) := by omega
    rw [decide_eq_false q, if_neg h3]
    rfl
end Mc
namespace Mc
open PySem PySem.Spec PyProof.Rows L2
/-- all but the objects at S, D is as it was -/
def Frm2 (S D : Addr) (H H' : Hp) : Prop := ∀ b o, b ≠ S → b ≠ D → H b = some o → H' b = some o
section
variable {S D : Addr} {H H1 H2 : Hp}
theorem Frm2.refl (H : Hp) : Frm2 S D H H := fun _ _ _ _ h => h
theorem Frm2.tr (b : Frm2 S D H1 H2) (a : Frm2 S D H H1) : Frm2 S D H H2 := fun c o n m h => b c o n m (a c o n m h)
theorem Frm2.trN {p : Addr} {o : HO} (b : H1 p = none) (a : Frm2 S D H H1) : Frm2 S D H (upd H1 p o) := fun c u n m e => Same.new b c u (a c u n m e)
theorem Frm2.trS (b : Same H1 H2) (a : Frm2 S D H H1) : Frm2 S D H H2 := fun c o n m h => b c o (a c o n m h)
theorem Frm2.trU {o : HO} (a : Frm2 S D H H1) : Frm2 S D H (upd H1 S o) := fun c u n m e => by
  rw [upd_ne n]
  exact a c u n m e
theorem Frm2.trV {o : HO} (a : Frm2 S D H H1) : Frm2 S D H (upd H1 D o) := fun c u n m e => by
  rw [upd_ne m]
  exact a c u n m e
theorem Frm2.trM {p : Addr} {o : HO} (k : H p = none) (a : Frm2 S D H H1) : Frm2 S D H (upd H1 p o) := fun c u n m e => by
  rw [upd_ne (ne_of_none e k)]
  exact a c u n m e
theorem hp_frm2 {a : Addr} {o : HO} (e : Frm2 S D H H1) (n : a ≠ S) (m : a ≠ D) (q : H a = some o) : H1 a = some o := e _ _ n m q
theorem Frm2.seq {K : PySem.W.Frag} {a : Addr} {xs : List V} (e : Frm2 S D H H1) (n : a ≠ S) (m : a ≠ D) (h : SqL K H a xs) : SqL K H1 a xs := by
  rcases h with (h | ⟨o, h⟩) | h
  · exact .inl (.inl (e _ _ n m h))
  · exact .inl (.inr ⟨o, e _ _ n m h⟩)
  · exact .inr h
theorem Frm2.tup {K : PySem.W.Frag} {a : Addr} {xs : List V} (e : Frm2 S D H H1) (n : a ≠ S) (m : a ≠ D) (h : SqT K H a xs) : SqT K H1 a xs := by
  rcases h with (h | ⟨o, h⟩) | h
  · exact .inl (.inl (e _ _ n m h))
  · exact .inl (.inr ⟨o, e _ _ n m h⟩)
  · exact .inr h
theorem Frm2.free {l : Addr} (h : H1 l = none) (n : l ≠ S) (m : l ≠ D) (e : Frm2 S D H H1) : H l = none := by
  cases q : H l with
  | none => rfl
  | some o =>
    rw [e l o n m q] at h
    cases h
theorem Same.by2 {H0 : Hp} (a : Same H0 H) (n : H0 S = none) (m : H0 D = none) (f : Frm2 S D H H1) : Same H0 H1 := fun b o e => f b o (ne_of_none e n) (ne_of_none e m) (a b o e)
end
theorem lay_ints : ∀ ns : List Int, PyData.canLayAll0 (ns.map PyData.int) = true
  | [] => rfl
  | n :: ns => by
    rw [List.map_cons]
    unfold PyData.canLayAll0
    rw [lay_ints ns]
    rfl
theorem depth_ints : ∀ ns : List Int, PyData.depthAll (ns.map PyData.int) = 0
  | [] => rfl
  | n :: ns => by
    rw [List.map_cons]
    unfold PyData.depthAll
    rw [depth_ints ns]
    rfl
theorem sh_ints (ns : List Int) : SeqAt.shaped (.list (ns.map PyData.int)) = true := by
  unfold SeqAt.shaped
  rw [show (PyData.list (ns.map PyData.int)).canLay0 = PyData.canLayAll0 (ns.map PyData.int) from by unfold PyData.canLay0; rfl, lay_ints,
    show (PyData.list (ns.map PyData.int)).depth = PyData.depthAll (ns.map PyData.int) + 1 from by unfold PyData.depth; rfl, depth_ints]
  rfl
theorem dp_ints {K : PySem.W.Frag} {H : Hp} : ∀ ns : List Int, DpAll K H (ns.map V.int) (ns.map PyData.int)
  | [] => .nil
  | n :: ns => .cons (.int n) (dp_ints ns)
theorem dp_intL {K : PySem.W.Frag} {H : Hp} {a : Addr} {ns : List Int} (h : SqL K H a (ns.map V.int)) : Dp K H (.ref a) (.list (ns.map PyData.int)) := .lst h (dp_ints ns)
/-- xs != [] -/
theorem st_neNil {K : PySem.W.Frag} {H : Hp} {Q : VK} {a b : Addr} {ns : List Int} (h : SqL K H a (ns.map V.int)) (hb : SqL K H b []) (q : Q (.bl (!ns.isEmpty)) H) : rNeD K (.ref a) (.ref b) H Q := by
  refine ⟨_, .list [], dp_intL h, .lst hb .nil, sh_ints ns, rfl, ?_⟩
  cases ns with
  | nil => exact q
  | cons n ns => exact q
theorem st_whI {c : TT} {tb : TS} {σ : L2.St} {H : Hp} {nx : L2.St → Hp → Prop} {rt : VK} {bk ct : L2.St → Hp → Prop} (W : Nat → L2.St → Hp → Prop) (h0 : ∃ m, W m σ H)
    (h : ∀ m σ H, W m σ H → c σ H fun b H1 => if b = true then tb ⟨fun σ' H' => ∃ m', m' < m ∧ W m' σ' H', rt, nx, fun σ' H' => ∃ m', m' < m ∧ W m' σ' H'⟩ σ H1 else nx σ H1)
    (mono : ∀ σ H Q Q', (∀ b H1, Q b H1 → Q' b H1) → c σ H Q → c σ H Q') : tWhile c tb ⟨nx, rt, bk, ct⟩ σ H := by
  refine ⟨W, h0, fun m σ H hW => mono _ _ _ _ (fun b H1 q => ?_) (h m σ H hW)⟩
  cases b with
  | true =>
    rw [if_pos rfl] at q ⊢
    exact ⟨_, fun _ _ x => x, q⟩
  | false =>
    rw [if_neg Bool.false_ne_true] at q ⊢
    exact q
end Mc
namespace Mc
open PySem PySem.Spec PyProof.Rows L2
theorem st_wh {c : TT} {tb : TS} {σ : L2.St} {H : Hp} {nx : L2.St → Hp → Prop} {rt : VK} {bk ct : L2.St → Hp → Prop} (W : Nat → L2.St → Hp → Prop) (h0 : ∃ m, W m σ H)
    (h : ∀ m σ H, W m σ H → c σ H fun b H1 => if b = true then ∃ N : L2.St → Hp → Prop, (∀ σ' H', N σ' H' → ∃ m', m' < m ∧ W m' σ' H') ∧ tb ⟨N, rt, nx, N⟩ σ H1 else nx σ H1) :
    tWhile c tb ⟨nx, rt, bk, ct⟩ σ H := ⟨W, h0, h⟩
theorem st_whN {tb : TS} {σ : L2.St} {H : Hp} {nx : L2.St → Hp → Prop} {rt : VK} {W : Nat → L2.St → Hp → Prop} {m : Nat}
    (h : tb ⟨fun σ' H' => ∃ m', m' < m ∧ W m' σ' H', rt, nx, fun σ' H' => ∃ m', m' < m ∧ W m' σ' H'⟩ σ H) :
    ∃ N : L2.St → Hp → Prop, (∀ σ' H', N σ' H' → ∃ m', m' < m ∧ W m' σ' H') ∧ tb ⟨N, rt, nx, N⟩ σ H := ⟨_, fun _ _ x => x, h⟩
theorem st_popAt {p : Addr} {xs : List V} {y : V} {H : Hp} {Q : VK} (h : H p = some (.lst (y :: xs))) (q : Q y (upd H p (.lst xs))) : rPopAt (.ref p) [.int 0] H Q :=
  ⟨p, y :: xs, 0, 0, y, rfl, rfl, h, by decide, by decide, seqIndex_of (by decide) (by rw [List.length_cons]; omega), rfl, q⟩
end Mc
namespace Mc
open PySem PySem.Spec PyProof.Rows L2
/-- len of a list or tuple -/
def rLenQ (K : PySem.W.Frag) : List V → Hp → VK → Prop := fun xs H Q => ∃ p ys, xs = [.ref p] ∧ (SqL K H p ys ∨ SqT K H p ys) ∧ Q (.int ys.length) H
theorem call_lenQ {X : Cx} : CallR X (.builtin "len") (rLenQ X.K) := call_len_seq
theorem st_lenQ {K : PySem.W.Frag} {H : Hp} {Q : VK} {p : Addr} {xs : List V} (h : SqL K H p xs) (q : Q (.int xs.length) H) : rLenQ K [.ref p] H Q := ⟨p, xs, rfl, .inl h, q⟩
theorem st_lenQT {K : PySem.W.Frag} {H : Hp} {Q : VK} {p : Addr} {xs : List V} (h : SqT K H p xs) (q : Q (.int xs.length) H) : rLenQ K [.ref p] H Q := ⟨p, xs, rfl, .inr h, q⟩
end Mc
namespace Mc
open PySem PySem.Spec PyProof.Rows L2
section
variable {K : PySem.W.Frag} {H : Hp} {Q : VK}
theorem isi_non_bool (q : Q (.bl false) H) : rIsi K [.non, .ty "bool"] H Q := st_isi (t := "NoneType") (.base .non) (by decide +kernel) q
theorem isi_non_int (q : Q (.bl false) H) : rIsi K [.non, .ty "int"] H Q := st_isi (t := "NoneType") (.base .non) (by decide +kernel) q
theorem isi_non_str (q : Q (.bl false) H) : rIsi K [.non, .ty "str"] H Q := st_isi (t := "NoneType") (.base .non) (by decide +kernel) q
theorem isi_non_list (q : Q (.bl false) H) : rIsi K [.non, .ty "list"] H Q := st_isi (t := "NoneType") (.base .non) (by decide +kernel) q
theorem isi_non_tuple (q : Q (.bl false) H) : rIsi K [.non, .ty "tuple"] H Q := st_isi (t := "NoneType") (.base .non) (by decide +kernel) q
theorem isi_bl_bool {b : Bool} (q : Q (.bl true) H) : rIsi K [.bl b, .ty "bool"] H Q := st_isi (t := "bool") (.base (.bl b)) (by decide +kernel) q
theorem isi_bl_int {b : Bool} (q : Q (.bl true) H) : rIsi K [.bl b, .ty "int"] H Q := st_isi (t := "bool") (.base (.bl b)) (by decide +kernel) q
theorem isi_bl_str {b : Bool} (q : Q (.bl false) H) : rIsi K [.bl b, .ty "str"] H Q := st_isi (t := "bool") (.base (.bl b)) (by decide +kernel) q
theorem isi_bl_list {b : Bool} (q : Q (.bl false) H) : rIsi K [.bl b, .ty "list"] H Q := st_isi (t := "bool") (.base (.bl b)) (by decide +kernel) q
theorem isi_bl_tuple {b : Bool} (q : Q (.bl false) H) : rIsi K [.bl b, .ty "tuple"] H Q := st_isi (t := "bool") (.base (.bl b)) (by decide +kernel) q
theorem isi_int_bool {i : Int} (q : Q (.bl false) H) : rIsi K [.int i, .ty "bool"] H Q := st_isi (t := "int") (.base (.int i)) (by decide +kernel) q
theorem isi_int_int {i : Int} (q : Q (.bl true) H) : rIsi K [.int i, .ty "int"] H Q := st_isi (t := "int") (.base (.int i)) (by decide +kernel) q
theorem isi_int_str {i : Int} (q : Q (.bl false) H) : rIsi K [.int i, .ty "str"] H Q := st_isi (t := "int") (.base (.int i)) (by decide +kernel) q
theorem isi_int_list {i : Int} (q : Q (.bl false) H) : rIsi K [.int i, .ty "list"] H Q := st_isi (t := "int") (.base (.int i)) (by decide +kernel) q
theorem isi_int_tuple {i : Int} (q : Q (.bl false) H) : rIsi K [.int i, .ty "tuple"] H Q := st_isi (t := "int") (.base (.int i)) (by decide +kernel) q
theorem isi_str_bool {x : Str} (q : Q (.bl false) H) : rIsi K [.str x, .ty "bool"] H Q := st_isi (t := "str") (.base (.str x)) (by decide +kernel) q
theorem isi_str_int {x : Str} (q : Q (.bl false) H) : rIsi K [.str x, .ty "int"] H Q := st_isi (t := "str") (.base (.str x)) (by decide +kernel) q
theorem isi_str_str {x : Str} (q : Q (.bl true) H) : rIsi K [.str x, .ty "str"] H Q := st_isi (t := "str") (.base (.str x)) (by decide +kernel) q
theorem isi_str_list {x : Str} (q : Q (.bl false) H) : rIsi K [.str x, .ty "list"] H Q := st_isi (t := "str") (.base (.str x)) (by decide +kernel) q
theorem isi_str_tuple {x : Str} (q : Q (.bl false) H) : rIsi K [.str x, .ty "tuple"] H Q := st_isi (t := "str") (.base (.str x)) (by decide +kernel) q
theorem isi_list_bool {a : Addr} {xs : List V} (h : SqL K H a xs) (q : Q (.bl false) H) : rIsi K [.ref a, .ty "bool"] H Q := st_isi (t := "list") (tyx_list h) (by decide +kernel) q
theorem isi_list_int {a : Addr} {xs : List V} (h : SqL K H a xs) (q : Q (.bl false) H) : rIsi K [.ref a, .ty "int"] H Q := st_isi (t := "list") (tyx_list h) (by decide +kernel) q
theorem isi_list_str {a : Addr} {xs : List V} (h : SqL K H a xs) (q : Q (.bl false) H) : rIsi K [.ref a, .ty "str"] H Q := st_isi (t := "list") (tyx_list h) (by decide +kernel) q
theorem isi_list_list {a : Addr} {xs : List V} (h : SqL K H a xs) (q : Q (.bl true) H) : rIsi K [.ref a, .ty "list"] H Q := st_isi (t := "list") (tyx_list h) (by decide +kernel) q
theorem isi_list_tuple {a : Addr} {xs : List V} (h : SqL K H a xs) (q : Q (.bl false) H) : rIsi K [.ref a, .ty "tuple"] H Q := st_isi (t := "list") (tyx_list h) (by decide +kernel) q
theorem isi_tuple_bool {a : Addr} {xs : List V} (h : SqT K H a xs) (q : Q (.bl false) H) : rIsi K [.ref a, .ty "bool"] H Q := st_isi (t := "tuple") (tyx_tup h) (by decide +kernel) q
theorem isi_tuple_int {a : Addr} {xs : List V} (h : SqT K H a xs) (q : Q (.bl false) H) : rIsi K [.ref a, .ty "int"] H Q := st_isi (t := "tuple") (tyx_tup h) (by decide +kernel) q
theorem isi_tuple_str {a : Addr} {xs : List V} (h : SqT K H a xs) (q : Q (.bl false) H) : rIsi K [.ref a, .ty "str"] H Q := st_isi (t := "tuple") (tyx_tup h) (by decide +kernel) q
theorem isi_tuple_list {a : Addr} {xs : List V} (h : SqT K H a xs) (q : Q (.bl false) H) : rIsi K [.ref a, .ty "list"] H Q := st_isi (t := "tuple") (tyx_tup h) (by decide +kernel) q
theorem isi_tuple_tuple {a : Addr} {xs : List V} (h : SqT K H a xs) (q : Q (.bl true) H) : rIsi K [.ref a, .ty "tuple"] H Q := st_isi (t := "tuple") (tyx_tup h) (by decide +kernel) q
theorem st_isN {x y : V} (e : y = .non) (q : Q (.bl (decide (x = .non))) H) : y = V.non ∧ Q (.bl (decide (x = .non))) H := ⟨e, q⟩
theorem st_ixSL {a : Addr} {xs : List V} {i : Int} {v : V} (h : SqL K H a xs) (ha : atI xs i = some v) (q : Q v H) : rIx K (.ref a) (.int i) H Q := .inl ⟨a, xs, i, v, rfl, rfl, h, ha, q⟩
theorem st_ixST {a : Addr} {xs : List V} {i : Int} {v : V} (h : SqT K H a xs) (ha : atI xs i = some v) (q : Q v H) : rIx K (.ref a) (.int i) H Q := .inr (.inl ⟨a, xs, i, v, rfl, rfl, h, ha, q⟩)
end
end Mc
namespace Mc
theorem st_iNT {A B : Prop} (h : A) : if (!false) = true then A else B := L2.iteT h
theorem st_iNF {A B : Prop} (h : B) : if (!true) = true then A else B := L2.iteF h
theorem st_iRf {α : Type} {x : α} [Decidable (x = x)] {A B : Prop} (h : A) : if decide (x = x) = true then A else B := by rw [decide_eq_true rfl]; exact L2.iteT h
theorem st_iNRf {α : Type} {x : α} [Decidable (x = x)] {A B : Prop} (h : B) : if (!decide (x = x)) = true then A else B := by rw [decide_eq_true rfl]; exact L2.iteF h
end Mc
namespace Mc
open PySem PySem.Spec PyProof.Rows L2
mutual
/-- how many parts data have -/
def cntD : PyData → Nat
  | .list xs => cntA xs + 1
  | .tuple xs => cntA xs + 1
  | .none => 1
  | .bool _ => 1
  | .int _ => 1
  | .str _ => 1
  | .dict _ => 1
def cntA : List PyData → Nat
  | [] => 0
  | x :: xs => cntD x + cntA xs
end
theorem cntD_pos : ∀ d : PyData, 1 ≤ cntD d
  | .list xs => by unfold cntD; omega
  | .tuple xs => by unfold cntD; omega
  | .none => by unfold cntD; omega
  | .bool _ => by unfold cntD; omega
  | .int _ => by unfold cntD; omega
  | .str _ => by unfold cntD; omega
  | .dict _ => by unfold cntD; omega
theorem cntA_len : ∀ ds : List PyData, ds.length ≤ cntA ds
  | [] => Nat.zero_le _
  | d :: ds => by
    have := cntA_len ds
    have := cntD_pos d
    unfold cntA
    rw [List.length_cons]
    omega
theorem cntA_get : ∀ {ds : List PyData} {i : Nat} {d : PyData}, ds[i]? = some d → cntD d ≤ cntA ds
  | [], _, _, h => by cases h
  | d :: ds, 0, _, h => by
    cases h
    unfold cntA
    omega
  | d :: ds, i + 1, _, h => by
    have := cntA_get (ds := ds) h
    unfold cntA
    omega
theorem cnt_ints : ∀ ns : List Int, cntA (ns.map PyData.int) = ns.length
  | [] => rfl
  | n :: ns => by
    rw [List.map_cons]
    unfold cntA
    rw [cnt_ints ns, List.length_cons]
    unfold cntD
    omega
end Mc
/-! data that are small enough to be compared; years and their months -/
namespace Mc
open PySem PySem.Spec PyProof.Rows L2
/-- data of depth n at most and c parts at most, laid out -/
def Sm (d : PyData) (n c : Nat) : Prop := d.canLay0 = true ∧ d.depth ≤ n ∧ cntD d ≤ c
def SmA (ds : List PyData) (n c : Nat) : Prop := PyData.canLayAll0 ds = true ∧ PyData.depthAll ds ≤ n ∧ cntA ds ≤ c
theorem Sm.nil : SmA [] 0 0 := ⟨rfl, Nat.zero_le _, Nat.zero_le _⟩
theorem Sm.cons {d : PyData} {ds : List PyData} {n m c c' : Nat} (h : Sm d n c) (h' : SmA ds m c') : SmA (d :: ds) (max n m) (c + c') := by
  obtain ⟨a, b, e⟩ := h
  obtain ⟨a', b', e'⟩ := h'
  refine ⟨?_, ?_, ?_⟩
  · unfold PyData.canLayAll0
    rw [a, a']
    rfl
  · unfold PyData.depthAll
    omega
  · unfold cntA
    omega
theorem Sm.list {ds : List PyData} {n c : Nat} (h : SmA ds n c) : Sm (.list ds) (n + 1) (c + 1) := by
  obtain ⟨a, b, e⟩ := h
  refine ⟨?_, ?_, ?_⟩
  · unfold PyData.canLay0
    exact a
  · unfold PyData.depth
    omega
  · unfold cntD
    omega
theorem Sm.tuple {ds : List PyData} {n c : Nat} (h : SmA ds n c) : Sm (.tuple ds) (n + 1) (c + 1) := by
  obtain ⟨a, b, e⟩ := h
  refine ⟨?_, ?_, ?_⟩
  · unfold PyData.canLay0
    exact a
  · unfold PyData.depth
    omega
  · unfold cntD
    omega
theorem Sm.int (i : Int) : Sm (.int i) 0 1 := ⟨by unfold PyData.canLay0; rfl, by unfold PyData.depth; omega, by unfold cntD; omega⟩
theorem Sm.bool (i : Bool) : Sm (.bool i) 0 1 := ⟨by unfold PyData.canLay0; rfl, by unfold PyData.depth; omega, by unfold cntD; omega⟩
theorem Sm.none : Sm .none 0 1 := ⟨by unfold PyData.canLay0; rfl, by unfold PyData.depth; omega, by unfold cntD; omega⟩
theorem Sm.ints (ns : List Int) : SmA (ns.map PyData.int) 0 ns.length := ⟨lay_ints ns, by rw [depth_ints]; omega, by rw [cnt_ints]; omega⟩
/-- the facts that the comparison asks -/
theorem Sm.use {d : PyData} {n c m : Nat} (h : Sm d n c) (hn : n < m) (hc : c ≤ 1152921504606846976) {R : Prop} (q : R) : d.canLay0 = true ∧ d.depth < m ∧ cntD d ≤ 1152921504606846976 ∧ R :=
  ⟨h.1, Nat.lt_of_le_of_lt h.2.1 hn, Nat.le_trans h.2.2 hc, q⟩
theorem Sm.sh {d : PyData} {n c : Nat} (h : Sm d n c) (hn : n ≤ 60) : SeqAt.shaped d = true := by
  unfold SeqAt.shaped
  rw [h.1, Bool.true_and, decide_eq_true]
  exact Nat.le_trans h.2.1 (Nat.le_trans hn (by decide))
theorem dp_bls {K : PySem.W.Frag} {H : Hp} : ∀ bs : List Bool, DpAll K H (bs.map V.bl) (bs.map PyData.bool)
  | [] => .nil
  | b :: bs => .cons (.bl b) (dp_bls bs)
theorem Sm.bools : ∀ bs : List Bool, SmA (bs.map PyData.bool) 0 bs.length
  | [] => Sm.nil
  | b :: bs => by
    have h := Sm.cons (Sm.bool b) (Sm.bools bs)
    obtain ⟨a, b, c⟩ := h
    exact ⟨a, Nat.le_trans b (by omega), Nat.le_trans c (by rw [List.length_cons]; omega)⟩
/-- the months of a year -/
def yL (y : Int) : List Int := (List.range 12).map fun (i : Nat) => mlen y (1 + (i : Int))
theorem yL_eq (y : Int) : yL y = [31, 28 + if leap y = true then 1 else 0, 31, 30, 31, 30, 31, 31, 30, 31, 30, 31] := by
  unfold yL
  simp only [List.range, List.range.loop, List.map_cons, List.map_nil]
  unfold mlen
  cases leap y <;> rfl
theorem yL_sum (y : Int) : (yL y).sum = 365 + if leap y = true then 1 else 0 := by
  rw [yL_eq]
  cases leap y <;> rfl
theorem yL_cyc (y k : Int) : yL (y + 400 * k) = yL y := by
  rw [yL_eq, yL_eq, leap_cyc]
theorem mlen_back (y m : Int) : mlen (y - 400) m = mlen y m := by
  have h : leap (y - 400) = leap y := by
    rw [show y - 400 = y + 400 * (-1) by omega, leap_cyc]
  unfold mlen
  rw [h]
def ySum (y : Int) (n : Nat) : Int := ((List.range n).map fun (i : Nat) => (yL (y + (i : Int))).sum).sum
theorem ySum_succ (y : Int) (n : Nat) : ySum y (n + 1) = ySum y n + (yL (y + (n : Int))).sum := by
  unfold ySum
  rw [List.range_succ, List.map_append, List.sum_append]
  simp
theorem ySum_step (y : Int) : ∀ n : Nat, ySum (y + 1) n = ySum y n + (yL (y + (n : Int))).sum - (yL y).sum
  | 0 => by
    unfold ySum
    simp
  | n + 1 => by
    rw [ySum_succ, ySum_succ, ySum_step y n, show y + 1 + (n : Int) = y + ((n + 1 : Nat) : Int) by omega]
    omega
theorem ySum_nat : ∀ n : Nat, ySum (n : Int) 400 = ySum 0 400
  | 0 => rfl
  | n + 1 => by
    rw [show ((n + 1 : Nat) : Int) = (n : Int) + 1 by omega, ySum_step, ySum_nat n, show (n : Int) + ((400 : Nat) : Int) = (n : Int) + 400 * 1 by omega, yL_cyc]
    omega
theorem ySum_cyc (y k : Int) (n : Nat) : ySum (y + 400 * k) n = ySum y n := by
  unfold ySum
  congr 1
  refine List.map_congr_left fun i _ => ?_
  rw [show y + 400 * k + (i : Int) = y + (i : Int) + 400 * k by omega, yL_cyc]
theorem ySum_0 : ySum 0 400 = 146097 := by decide +kernel
theorem ySum_all (y : Int) : ySum y 400 = 146097 := by
  have h := ySum_cyc (y % 400) (y / 400) 400
  rw [show y % 400 + 400 * (y / 400) = y by omega] at h
  rw [h, show y % 400 = ((y % 400).toNat : Int) by omega, ySum_nat, ySum_0]
end Mc
/-! repr of data, in the law's own frame (there no repr is under way); the law's end for such a law -/
namespace Mc
open PySem PySem.Spec PyProof.Rows L2
/-- data that have a text of n characters at most -/
def Tx (d : PyData) (n : Nat) : Prop := d.showable = true ∧ d.hasDict = false ∧ d.shown.length ≤ n
def TxA (ds : List PyData) (n : Nat) : Prop := PyData.showableAll ds = true ∧ PyData.hasDictAll ds = false ∧ piled (PyData.shownAll ds) ≤ n
theorem TxA.nil : TxA [] 0 := ⟨rfl, rfl, Nat.le_refl _⟩
theorem TxA.cons {d : PyData} {ds : List PyData} {n m : Nat} (h : Tx d n) (h' : TxA ds m) : TxA (d :: ds) (n + 2 + m) := by
  obtain ⟨a, b, c⟩ := h
  obtain ⟨a', b', c'⟩ := h'
  refine ⟨?_, ?_, ?_⟩
  · unfold PyData.showableAll
    rw [a, a']
    rfl
  · unfold PyData.hasDictAll
    rw [b, b']
    rfl
  · unfold PyData.shownAll
    rw [piled_cons]
    omega
theorem textFrom_le : ∀ (ts : List Str) (k : Nat) (acc : Str), (textFrom k acc ts).length ≤ acc.length + piled ts
  | [], k, acc => Nat.le_add_right _ _
  | t :: ts, k, acc => by
    have h := textFrom_le ts (k + 1) (acc ++ (if k > 0 then ", " else "" : String) ++ t)
    rw [piled_cons]
    unfold textFrom
    refine Nat.le_trans h ?_
    rw [PySem.Str.length_append, PySem.Str.length_append]
    have e : (Str.ofString (if k > 0 then ", " else "" : String)).length ≤ 2 := by split <;> decide
    omega
theorem Tx.list {ds : List PyData} {n : Nat} (h : TxA ds n) : Tx (.list ds) (n + 2) := by
  obtain ⟨a, b, c⟩ := h
  refine ⟨?_, ?_, ?_⟩
  · unfold PyData.showable
    exact a
  · unfold PyData.hasDict
    exact b
  · unfold PyData.shown listText
    rw [PySem.Str.length_append]
    have h := textFrom_le (PyData.shownAll ds) 0 "["
    have e1 : (Str.ofString "[").length = 1 := rfl
    have e2 : (Str.ofString "]").length = 1 := rfl
    omega
theorem Tx.tuple {ds : List PyData} {n : Nat} (h : TxA ds n) : Tx (.tuple ds) (n + 3) := by
  obtain ⟨a, b, c⟩ := h
  refine ⟨?_, ?_, ?_⟩
  · unfold PyData.showable
    exact a
  · unfold PyData.hasDict
    exact b
  · unfold PyData.shown tupleText
    rw [PySem.Str.length_append, PySem.Str.length_append]
    have e1 : (Str.ofString "(").length = 1 := rfl
    have e2 : (Str.ofString (if (PyData.shownAll ds).length == 1 then ",)" else ")" : String)).length ≤ 2 := by split <;> decide
    have e3 : (Str.join ", " (PyData.shownAll ds)).length ≤ piled (PyData.shownAll ds) := by
      cases q : PyData.shownAll ds with
      | nil => decide
      | cons y ys =>
        have z := join_length_add (y :: ys) (by simp)
        omega
    omega
theorem Tx.int {i : Int} {b : Nat} (h0 : 0 < b) (h1 : b ≤ 1900) (h : i.natAbs < 2 ^ b) : Tx (.int i) (b + 1) := by
  have l : i.natAbs.log2 < b := PySem.Flt.log2_lt_of h0 h
  refine ⟨?_, rfl, ?_⟩
  · unfold PyData.showable
    exact decide_eq_true (by omega)
  · unfold PyData.shown
    rw [PySem.ofString_length]
    exact int_text_length_le h0 l
theorem Tx.ints {b : Nat} (h0 : 0 < b) (h1 : b ≤ 1900) : ∀ ns : List Int, (∀ i ∈ ns, i.natAbs < 2 ^ b) → TxA (ns.map PyData.int) ((b + 3) * ns.length)
  | [], _ => TxA.nil
  | i :: ns, h => by
    have z := TxA.cons (Tx.int h0 h1 (h i (List.mem_cons_self ..))) (Tx.ints h0 h1 ns fun j hj => h j (List.mem_cons_of_mem _ hj))
    obtain ⟨a, b', c⟩ := z
    refine ⟨a, b', Nat.le_trans c ?_⟩
    rw [List.length_cons, Nat.mul_succ]
    omega
theorem Tx.mono {d : PyData} {n m : Nat} (h : Tx d n) (l : n ≤ m) : Tx d m := ⟨h.1, h.2.1, Nat.le_trans h.2.2 l⟩
theorem TxA.mono {d : List PyData} {n m : Nat} (h : TxA d n) (l : n ≤ m) : TxA d m := ⟨h.1, h.2.1, Nat.le_trans h.2.2 l⟩
/-- repr(a), a a list or tuple of data -/
def rRepr (K : PySem.W.Frag) : List V → Hp → VK → Prop := fun xs H Q => ∃ (a : Addr) (d : PyData) (n : Nat), xs = [.ref a] ∧ Dp K H (.ref a) d ∧ Tx d n ∧ n ≤ 10000000 ∧ d.depth ≤ 60 ∧ Q (.str d.shown) H
theorem call_reprD {X : Cx} {k : Nat} (hg : X.A.guards = some []) (hr : Room k X.A) : CallR X (.builtin "repr") (rRepr X.K) := by
  intro pins s σ H xs us Q I r h
  obtain ⟨a, d, n, rfl, hd, ht, hn, hp, q⟩ := h
  cases r with
  | cons r1 r2 =>
    cases r2
    cases r1
    obtain ⟨as, hR⟩ := Dp.reads I d (.ref a) (.ref a) hd rfl
    refine repr_of_reads' hR ht.1 (PyData.noDict_hsm ht.2.1) hg (by have := hr.un; omega) (fun _ _ e => e) (fun h' u tk hk => ⟨.str d.shown, H, I.kept hk, ⟨_, rfl⟩, q⟩) (Nat.le_trans ht.2.2 (Nat.le_trans hn (by decide)))
/-- the law's own call, from the top -/
structure TopOk (P : Program) (w : World) (K : PySem.W.Frag) (mg : Str → Option Value) (base : Heap) (CX : CXT) (f : Addr) (fd : FuncData) (x : Str) (sp : Sp) : Prop where
  run : ∀ (s : Shared) (H : Hp) (u : Value) (v : V) (Q : VK) (E : XK), Env0 P w K mg base callerA [] s H → BindsTo s fd ⟨[u], []⟩ [(x, u)] → RelV v u → sp [v] H Q E →
    codeAny (model P w) callerA (.call (.ref f) ⟨[u], []⟩) (CR CX [] P w H s Q E) s
theorem top_ok {P : Program} {w : World} {K : PySem.W.Frag} {mg : Str → Option Value} {base : Heap} {y qual : Str} {params : Arguments} {body : List Stmt} {scope : Scope} {dvs : List V} {kws : List (Str × V)} {f : Addr} {fd : FuncData}
    {CX : CXT} {N : List Str} {x : Str} {k : Nat} {sp : Sp} (F : FunD K y qual params body scope dvs kws f fd) (S : FnScope N [x] scope) (hr : Room (k + 1) callerA)
    (hbody : ∀ (cdv : Value) (s : Shared) (H : Hp) (v : V) (Q : VK) (E : XK), Room k (callerA.deeper (envOfC qual scope s.heap.objs.size f cdv)) → sp [v] H Q E →
      ∃ t, PSs (cxOf CX P w K mg base N qual scope f cdv callerA [] s H E) body t ∧ t { nx := fun _ H' => Q .non H', rt := Q } (start N [v]) H) : TopOk P w K mg base CX f fd x sp := by
  obtain ⟨_, _, _, _, _, _, _, cdv, _, _, rfl, lk, hcd, _, _⟩ := F.ex
  refine ⟨fun s H u v Q E e0 hb r hsp => ?_⟩
  have lim : s.heap.NoLimit := e0.mod.nolimit.keeps fun b o e => (e0.bs b o e).1
  have KX : K.In s.heap := e0.mod.kin.keeps fun b o e => (e0.bs b o e).1
  have hk : ∀ z ∈ [x].zip [u], scope.names.lookup z.1 = some .local ∨ (scope.names.lookup z.1 = some .cell ∧ ((cellsFrom (s.heap.objs.size + 1) scope.names []).lookup z.1).isSome = true) := fun z hz =>
    (S.par z.1 (List.of_mem_zip (a := z.1) (b := z.2) hz).1).imp id fun q => ⟨q, PySem.W.cellsFrom_some _ _ _ (.inl q)⟩
  refine codeAny_call_function hr.depth (KX _ _ lk) rfl S.co S.gen rfl (PySem.W.codeRec_of KX hcd) (hb _ _ _ _ (wpAny_newFunctionEnv_cells S.kind hk fun env he s1 z => ?_))
  subst he
  refine ⟨lim.keeps z.toInCall.keep, codeAny_func ?_⟩
  obtain ⟨t, ht, hq⟩ := hbody cdv s H v Q E (hr.deeper _) hsp
  refine wpAny_mono (ht.run [] s1 (start N [v]) H _ (inv_start S hr.hd e0 rfl (.cons r .nil) z) hq) (fun fl s' hs => ?_) fun e s' hs => hs
  cases fl with
  | brk => exact hs.elim fun _ hs => hs.elim fun _ hs => hs.2.elim
  | cont => exact hs.elim fun _ hs => hs.elim fun _ hs => hs.2.elim
  | next =>
    obtain ⟨σ', H', J, q⟩ := hs
    exact ⟨V.non, H', J.os, J.bare, J.base, J.hok, rfl, q⟩
  | ret z =>
    obtain ⟨v', σ', H', J, rv, q⟩ := hs
    exact ⟨v', H', J.os, J.bare, J.base, J.hok, rv, q⟩
/-- the law's promise at the heap behind the top, its def run from there alone -/
theorem top_call {P : Program} {w : World} {K : PySem.W.Frag} {mg mb : Str → Option Value} {CX : CXT} {fa a : Addr} {fd : FuncData} {x : Str} {sp : Sp} {s₁ : Shared} {vs : List Value} {ns : List Int}
    (KX : K.In s₁.heap) (hns : s₁.heap.Ns mainGlobals mg) (hb : s₁.heap.Ns builtinsNs mb) (hbb : ∀ x : Str, x ≠ "__name__" → mb x = bootBuiltins x) (hlim : s₁.heap.NoLimit) (hg : s₁.gens = #[])
    (ha : s₁.heap.get? a = some { cls := .type "list", data := .seq vs.toArray }) (hi : IntsAre vs ns) (hl : ns.length ≤ sizeLine)
    (F : ∀ base : Heap, K.In base → base.Ns mainGlobals mg → TopOk P w K mg base CX fa fd x sp) (hbind : ∀ (s : Shared) (u : Value), BindsTo s fd ⟨[u], []⟩ [(x, u)])
    (hsp : ∀ H : Hp, SqL K H a (ns.map V.int) → sp [.ref a] H (fun v _ => v = .bl true) fun _ _ _ => False)
    (hCX : ∀ H e s', CX [] H s₁ (fun _ _ _ => False) e s' → False) :
    codeAny (model P w) callerA (.call (.ref fa) ⟨[.ref a], []⟩) (fun r s' => r = .ok (.ret (.bool true)) ∧ OldK s₁.heap s'.heap ∧ s'.os = s₁.os ∧ AllBare s'.gens) s₁ := by
  have go : ∀ H : Hp, (∀ b u, H b = some u → b = a ∧ K.lookup a = none ∧ ∃ o xs, u = .frz o (.lst xs)) → SqL K H a (ns.map V.int) → HOk P w H s₁.heap →
      codeAny (model P w) callerA (.call (.ref fa) ⟨[.ref a], []⟩) (fun r s' => r = .ok (.ret (.bool true)) ∧ OldK s₁.heap s'.heap ∧ s'.os = s₁.os ∧ AllBare s'.gens) s₁ := by
    intro H hH hS hok
    have emp : ∀ {b : Addr}, (∀ u, H b = some u → False) → H b = none := fun {b} n => by
      cases q : H b with
      | none => rfl
      | some u => exact (n u q).elim
    have kN : K.In (hidT s₁.heap H) := fun b o e => hidT_get (KX b o e) (emp fun u q => by
      obtain ⟨rfl, z, _⟩ := hH b u q
      rw [z] at e
      cases e)
    have nN : ∀ {b : Addr} {m : Str → Option Value}, s₁.heap.Ns b m → (hidT s₁.heap H).Ns b m := fun {b m} z => by
      obtain ⟨o, es, ep, e, d, r⟩ := z
      refine ⟨o, es, ep, hidT_get e (emp fun u q => ?_), d, r⟩
      obtain ⟨rfl, _⟩ := hH b u q
      rw [ha] at e
      cases e
      exact nomatch (show Data.seq vs.toArray _ = Data.dict es ep from d)
    have mN : Mod K mg (hidT s₁.heap H) := ⟨kN, nN hns, ⟨mb, nN hb, hbb⟩, hlim.elim fun mc z => ⟨mc, nN z.1, z.2⟩⟩
    have e0 : Env0 P w K mg (hidT s₁.heap H) callerA [] s₁ H :=
      { frames := rfl, mod := mN, bs := fun b o e => of_hidT e, bsz := Nat.le_of_eq (hidT_size _ _), funs := trivial, frf := fun b z => (nomatch (show b ∈ ([] : List Addr) from z)), hok := hok, bare := .of_eq hg }
    refine codeAny_mono ((F _ kN (nN hns)).run s₁ H (.ref a) (.ref a) _ _ e0 (hbind s₁ (.ref a)) rfl (hsp H hS)) fun r s' h => ?_
    match r, h with
    | .error e, h => exact (hCX H e s' h).elim
    | .ok .next, h => exact h.elim
    | .ok .brk, h => exact h.elim
    | .ok .cont, h => exact h.elim
    | .ok (.ret u), h =>
      obtain ⟨v, H', os, bare, un, hok', r', rfl⟩ := h
      obtain rfl : u = Value.bool true := r'
      refine ⟨rfl, OldK.of_keep fun b o e => ?_, os, bare⟩
      cases q : H b with
      | none => exact un.keep b o e q (fun z => nomatch (show b ∈ ([] : List Addr) from z)) (fun z => nomatch z)
      | some u =>
        obtain ⟨_, _, ob, xs, rfl⟩ := hH b u q
        have z1 := (hok b _ q).1
        have z2 := (hok' b _ (un.frzs b ob _ q)).1
        rw [e] at z1
        cases z1
        exact z2
  have rv := vals_ints hi
  have lenV := hi.length
  by_cases hk : ∃ o, K.lookup a = some o
  · obtain ⟨o, hk⟩ := hk
    have e := KX a o hk
    rw [ha] at e
    cases e
    exact go (fun _ => none) (fun b u z => (nomatch (show (none : Option HO) = some u from z))) (.inr ⟨_, vs.toArray, _, hk, rfl, rfl, rfl, by rw [List.size_toArray, lenV]; exact hl, by simpa using rv⟩) fun b u z => nomatch (show (none : Option HO) = some u from z)
  · have hk2 : K.lookup a = none := by
      cases q : K.lookup a with
      | none => rfl
      | some o => exact (hk ⟨o, q⟩).elim
    have one : ∀ b u, (if b = a then some (HO.frz { cls := .type "list", data := .seq vs.toArray } (.lst (ns.map V.int))) else none) = some u → b = a ∧ u = HO.frz { cls := .type "list", data := .seq vs.toArray } (.lst (ns.map V.int)) := fun b u z => by
      by_cases hb : b = a
      · rw [if_pos hb] at z
        exact ⟨hb, (Option.some.inj z).symm⟩
      · rw [if_neg hb] at z
        exact nomatch z
    refine go (fun b => if b = a then some (.frz { cls := .type "list", data := .seq vs.toArray } (.lst (ns.map V.int))) else none) (fun b u z => ?_) (.inl (.inr ⟨_, if_pos rfl⟩)) fun b u z => ?_
    · obtain ⟨z1, z2⟩ := one b u z
      exact ⟨z1, hk2, _, _, z2⟩
    · obtain ⟨rfl, rfl⟩ := one b u z
      exact ⟨ha, by rw [List.length_map]; exact hl, vs, _, rv, ha⟩
/-- a law's end over a head by facts, its def run from the top alone -/
theorem walk_top {l : PySem.W.OpenLaw} {n : Nat} {q : Program} {loose : List Str} {XP : (Str → Option Value) → Heap → Prop} {YP : World → Heap → Prop} {d : DefRec} {CX : CXT} {x : Str}
    (hn : l.most = some n) (hn2 : n ≤ sizeLine) (hdf : d.params.defaults = [])
    (F : ∀ (w : World) (mg : Str → Option Value) (fa : Addr) (h : Heap), YP w h → h.Ns mainGlobals mg → mg d.name = some (.ref fa) →
      ∃ (K : PySem.W.Frag) (fd : FuncData) (sp : Sp), K.In h ∧ (∀ (s : Shared) (u : Value), BindsTo s fd ⟨[u], []⟩ [(x, u)]) ∧
        (∀ (H : Hp) (a : Addr) (ns : List Int), ns.length ≤ n → SqL K H a (ns.map V.int) → sp [.ref a] H (fun v _ => v = .bl true) fun _ _ _ => False) ∧
        ∀ base : Heap, K.In base → base.Ns mainGlobals mg → TopOk l.prog w K mg base CX fa fd x sp)
    (hCX : ∀ (H : Hp) (s : Shared) (e : Value) (s' : Shared), CX [] H s (fun _ _ _ => False) e s' → False) :
    PySem.W.WalkO q loose XP YP l.row.toRowW d [] (fun f vs => PySem.call f vs) := by
  refine Att.attach_call hn hdf fun w s₀ s₁ mg mb fa o pm cd doc a vs ns G Y ho hd hcd hmg hobj hints hlen hg => ?_
  obtain ⟨K, fd, sp, KX, hb, hsp, hF⟩ := F w mg fa _ Y G.T.g hmg
  exact top_call KX G.T.g G.T.b G.T.builtins G.T.nolimit hg hobj hints (Nat.le_trans hlen hn2) hF hb (fun H hS => hsp H a ns hlen hS) fun H e s' => hCX H s₁ e s'
end Mc
/-! lists of dates; more small rules -/
namespace Mc
open PySem PySem.Spec PyProof.Rows L2
/-- tuples stay -/
def TupK (H H' : Hp) : Prop := ∀ p xs, H p = some (.tup xs) → H' p = some (.tup xs)
section
variable {H H1 H2 : Hp} {S D p : Addr} {o : HO} {xs : List V}
theorem TupK.refl (H : Hp) : TupK H H := fun _ _ h => h
theorem TupK.trans (a : TupK H H1) (b : TupK H1 H2) : TupK H H2 := fun p xs h => b p xs (a p xs h)
theorem TupK.same (a : Same H H1) : TupK H H1 := fun p xs h => a p _ h
theorem TupK.new (h : H p = none) : TupK H (upd H p o) := TupK.same (Same.new h)
theorem TupK.upd (h : H p = some (.lst xs)) : TupK H (upd H p o) := fun q ys e => by
  rw [upd_ne (fun z => by rw [z, h] at e; cases e)]
  exact e
theorem TupK.frm2 {xs ys : List V} (hS : H S = some (.lst xs)) (hD : H D = some (.lst ys)) (f : Frm2 S D H H1) : TupK H H1 := fun q zs e =>
  f q _ (fun z => by rw [z, hS] at e; cases e) (fun z => by rw [z, hD] at e; cases e) e
theorem ne_tl {a b : Addr} {xs ys : List V} (h : H a = some (.tup xs)) (h2 : H b = some (.lst ys)) : a ≠ b := fun z => by rw [z, h2] at h; cases h
/-- a list of dates -/
inductive DL (H : Hp) : List V → List Dt → Prop
  | nil : DL H [] []
  | cons {p : Addr} {s : Dt} {rs : List V} {ss : List Dt} : H p = some (.tup (dT s)) → DL H rs ss → DL H (.ref p :: rs) (s :: ss)
theorem DL.imp {rs : List V} {ss : List Dt} (k : TupK H H1) (h : DL H rs ss) : DL H1 rs ss := by
  induction h with
  | nil => exact .nil
  | cons h _ ih => exact .cons (k _ _ h) ih
theorem DL.snoc {rs : List V} {ss : List Dt} {s : Dt} (h : DL H rs ss) (hp : H p = some (.tup (dT s))) : DL H (rs ++ [.ref p]) (ss ++ [s]) := by
  induction h with
  | nil => exact .cons hp .nil
  | cons h _ ih => exact .cons h ih
theorem DL.len {rs : List V} {ss : List Dt} (h : DL H rs ss) : rs.length = ss.length := by
  induction h with
  | nil => rfl
  | cons _ _ ih => rw [List.length_cons, List.length_cons, ih]
theorem DL.dp {K : PySem.W.Frag} {rs : List V} {ss : List Dt} (h : DL H rs ss) : DpAll K H rs (ss.map dD) := by
  induction h with
  | nil => exact .nil
  | cons h _ ih => exact .cons (dp_date h) ih
end
theorem Sm.date (s : Dt) : Sm (dD s) 1 4 := Sm.tuple (Sm.ints [_, _, _])
theorem Sm.mono {d : PyData} {n m c e : Nat} (h : Sm d n c) (l : n ≤ m) (l2 : c ≤ e) : Sm d m e := ⟨h.1, Nat.le_trans h.2.1 l, Nat.le_trans h.2.2 l2⟩
theorem SmA.mono {d : List PyData} {n m c e : Nat} (h : SmA d n c) (l : n ≤ m) (l2 : c ≤ e) : SmA d m e := ⟨h.1, Nat.le_trans h.2.1 l, Nat.le_trans h.2.2 l2⟩
theorem Sm.dates : ∀ ss : List Dt, SmA (ss.map dD) 1 (4 * ss.length)
  | [] => SmA.mono Sm.nil (by decide) (by decide)
  | s :: ss => SmA.mono (Sm.cons (Sm.date s) (Sm.dates ss)) (by decide) (by rw [List.length_cons]; omega)
theorem atI_last {xs : List V} {v : V} : atI (xs ++ [v]) (-1) = some v := by
  unfold atI
  simp only [ixN, List.length_append, List.length_singleton]
  have e : (-1 + ((xs.length + 1 : Nat) : Int)).toNat = xs.length := by omega
  simp [e]
  rw [if_pos (by omega), show (-1 + ((xs.length : Int) + 1)).toNat = xs.length by omega]
  simp
section
variable {σ : L2.St} {H : Hp} {Q : VK} {i : Int} {nx : L2.St → Hp → Prop} {rt : VK} {bk ct : L2.St → Hp → Prop}
theorem st_par3 {u v w : V} {R : V → V → V → Prop} (h : R u v w) : ∃ x y z, [u, v, w] = [x, y, z] ∧ R x y z := ⟨u, v, w, rfl, h⟩
theorem st_par3F {n m l : Nat} {ta : TA} {f : V → V → V → L2.St} (e : ∀ u v w, ((List.set σ n (some u)).set m (some v)).set l (some w) = f u v w) (h : ta σ H fun vs H1 => ∃ u v w, vs = [u, v, w] ∧ nx (f u v w) H1) :
    tPar3 n m l ta ⟨nx, rt, bk, ct⟩ σ H := by
  have e2 : (fun u v w => ((List.set σ n (some u)).set m (some v)).set l (some w)) = f := funext fun u => funext fun v => funext (e u v)
  subst e2
  exact h
/-- xs.insert(i, y) -/
def rInsert : V → List V → Hp → VK → Prop := fun x vs H Q => ∃ (l : Addr) (xs : List V) (i : Int) (y : V), x = .ref l ∧ vs = [.int i, y] ∧ H l = some (.lst xs) ∧ xs.length < sizeLine ∧ 0 ≤ i ∧ i < 2 ^ 63 ∧
    Q .non (upd H l (.lst (xs.take i.toNat ++ [y] ++ xs.drop i.toNat)))
theorem mt_insertK {X : Cx} : MtR X "list.insert" rInsert := mt_insert
theorem st_insert {p : Addr} {xs : List V} {y : V} (h : H p = some (.lst xs)) (hl : xs.length < 100000) (h0 : 0 ≤ i) (h1 : i < 2 ^ 63) (q : Q .non (upd H p (.lst (xs.take i.toNat ++ [y] ++ xs.drop i.toNat)))) : rInsert (.ref p) [.int i, y] H Q :=
  ⟨p, xs, i, y, rfl, rfl, h, len_lt hl, h0, h1, q⟩
theorem st_repr {K : PySem.W.Frag} {a : Addr} {d : PyData} {n : Nat} (h : Dp K H (.ref a) d) (ht : Tx d n) (hn : n ≤ 10000000) (hp : d.depth ≤ 60) (q : Q (.str d.shown) H) : rRepr K [.ref a] H Q := ⟨a, d, n, rfl, h, ht, hn, hp, q⟩
end
theorem nat_ab {i : Int} {b : Nat} (h0 : -((2 ^ b : Nat) : Int) < i) (h : i < (2 ^ b : Nat)) : i.natAbs < 2 ^ b := by omega
/-- the text of a date -/
theorem Tx.date {s : Dt} {b : Nat} (h0 : 0 < b) (h1 : b ≤ 1900) (h : s.1.natAbs < 2 ^ b) (hs : okS s) (h5 : 5 ≤ b) : Tx (dD s) (3 * b + 20) := by
  obtain ⟨h2, h3⟩ := hs
  have := lenN_bd s.1
  have p5 : (2 : Nat) ^ 5 ≤ 2 ^ b := Nat.pow_le_pow_right (by decide) h5
  refine Tx.mono (Tx.tuple (TxA.cons (Tx.int h0 h1 (i := s.1 / 12) (by omega)) (TxA.cons (Tx.int h0 h1 (i := s.1 % 12 + 1) (by omega)) (TxA.cons (Tx.int h0 h1 (i := s.2) (by omega)) TxA.nil)))) (by omega)
end Mc
namespace Mc
open PySem PySem.Spec PyProof.Rows L2
theorem cutV_take {xs : List V} {c : Int} (h0 : 0 ≤ c) (h1 : c ≤ xs.length) : cutV xs none (some c) = xs.take c.toNat := by
  obtain ⟨k, rfl⟩ := Int.eq_ofNat_of_zero_le h0
  unfold cutV
  rw [HT.sIx_none, HT.sIx_nat, Nat.min_eq_left (by omega), List.drop_zero]
  rfl
theorem cutV_drop {xs : List V} {c : Int} (h0 : 0 ≤ c) (h1 : c ≤ xs.length) : cutV xs (some c) none = xs.drop c.toNat := by
  obtain ⟨k, rfl⟩ := Int.eq_ofNat_of_zero_le h0
  unfold cutV
  rw [HT.sIx_none, HT.sIx_nat, Nat.min_eq_left (by omega), List.take_of_length_le (by rw [List.length_drop]; exact Nat.le_refl _)]
  rfl
section
variable {K : PySem.W.Frag} {H : Hp} {Q : VK} {p : Addr} {ns : List Int}
/-- ns[:c], ns[c:] -/
theorem st_slTo {c : Int} (h : SqL K H p (ns.map V.int)) (h0 : 0 ≤ c) (h1 : c ≤ ns.length) (q : ∀ u, H u = none → Q (.ref u) (upd H u (.lst ((ns.take c.toNat).map V.int)))) : rSlL K (.ref p) none (some c) H Q := by
  refine st_slL h ?_
  rw [cutV_take h0 (by rw [List.length_map]; exact h1), ← List.map_take]
  exact q
theorem st_slFrom {c : Int} (h : SqL K H p (ns.map V.int)) (h0 : 0 ≤ c) (h1 : c ≤ ns.length) (q : ∀ u, H u = none → Q (.ref u) (upd H u (.lst ((ns.drop c.toNat).map V.int)))) : rSlL K (.ref p) (some c) none H Q := by
  refine st_slL h ?_
  rw [cutV_drop h0 (by rw [List.length_map]; exact h1), ← List.map_drop]
  exact q
/-- ns[-1], ns[-2] -/
theorem st_ixN2 (h : SqL K H p (ns.map V.int)) (h1 : 2 ≤ ns.length) (q : ∀ k, k ∈ ns → Q (.int k) H) : rIxL K (.ref p) (.int (-2)) H Q := by
  have e : atI (ns.map V.int) (-2) = some (.int (ns[ns.length - 2])) := by
    unfold atI ixN
    rw [if_neg (by decide), if_pos (by rw [List.length_map]; omega)]
    show (ns.map V.int)[(-2 + ((ns.map V.int).length : Int)).toNat]? = _
    rw [show (-2 + ((ns.map V.int).length : Int)).toNat = ns.length - 2 by rw [List.length_map]; omega, List.getElem?_map, List.getElem?_eq_getElem (by omega)]
    rfl
  exact st_ixL h e (q _ (List.getElem_mem _))
theorem st_ixN1 (h : SqL K H p (ns.map V.int)) (h1 : 1 ≤ ns.length) (q : ∀ k, ns.getLast? = some k → Q (.int k) H) : rIxL K (.ref p) (.int (-1)) H Q := by
  have e : atI (ns.map V.int) (-1) = some (.int (ns[ns.length - 1])) := by
    unfold atI ixN
    rw [if_neg (by decide), if_pos (by rw [List.length_map]; omega)]
    show (ns.map V.int)[(-1 + ((ns.map V.int).length : Int)).toNat]? = _
    rw [show (-1 + ((ns.map V.int).length : Int)).toNat = ns.length - 1 by rw [List.length_map]; omega, List.getElem?_map, List.getElem?_eq_getElem (by omega)]
    rfl
  exact st_ixL h e (q _ (by rw [List.getLast?_eq_getElem?, List.getElem?_eq_getElem (by omega)]))
/-- ns[-1] = k -/
theorem st_setN {R : Hp → Prop} {k : Int} (h : H p = some (.lst (ns.map V.int))) (h1 : 1 ≤ ns.length) (q : R (upd H p (.lst ((ns.set (ns.length - 1) k).map V.int)))) : rSetL (.ref p) (.int (-1)) (.int k) H R := by
  refine st_setL (n := ns.length - 1) h ?_ ?_
  · unfold ixN
    rw [if_neg (by decide), if_pos (by rw [List.length_map]; omega)]
    exact congrArg some (by rw [List.length_map]; omega)
  · rw [← List.map_set]
    exact q
theorem st_catI {a b : Addr} {ns ms : List Int} (h : H a = some (.lst (ns.map V.int))) (hb : H b = some (.lst (ms.map V.int))) (hl : ns.length + ms.length < 100000) (q : ∀ c, H c = none → Q (.ref c) (upd H c (.lst ((ns ++ ms).map V.int)))) : rCat (.ref a) (.ref b) H Q := by
  refine st_cat h hb (by rw [List.length_map, List.length_map]; exact hl) ?_
  rw [← List.map_append]
  exact q
end
theorem mvL_append (s : Dt) (xs ys : List Int) : mvL s (xs ++ ys) = mvL (mvL s xs) ys := List.foldl_append ..
def upY (s : Dt) : Dt := (s.1 + 4800, s.2)
theorem mvS_up (s : Dt) (k : Int) : mvS (upY s) k = upY (mvS s k) := by
  unfold mvS upY
  show (s.1 + 4800 + k, min s.2 (lenN (s.1 + 4800 + k))) = (s.1 + k + 4800, min s.2 (lenN (s.1 + k)))
  rw [show s.1 + 4800 + k = s.1 + k + 4800 by omega, show s.1 + k + 4800 = s.1 + k + 4800 * 1 by omega, lenN_cyc]
theorem mvL_up : ∀ (ns : List Int) (s : Dt), mvL (upY s) ns = upY (mvL s ns)
  | [], s => rfl
  | n :: ns, s => by
    show mvL (mvS (upY s) n) ns = _
    rw [mvS_up, mvL_up ns]
    rfl
theorem mvS_far (s : Dt) (k : Int) : mvS s (k + 4800) = upY (mvS s k) := by
  unfold mvS upY
  show (s.1 + (k + 4800), min s.2 (lenN (s.1 + (k + 4800)))) = (s.1 + k + 4800, min s.2 (lenN (s.1 + k)))
  rw [show s.1 + (k + 4800) = s.1 + k + 4800 * 1 by omega, lenN_cyc]
  rfl
theorem mvL_far (s : Dt) (k : Int) (ns : List Int) : mvL s ((k + 4800) :: ns) = upY (mvL s (k :: ns)) := by
  show mvL (mvS s (k + 4800)) ns = upY (mvL (mvS s k) ns)
  rw [mvS_far, mvL_up]
theorem dT_up (s : Dt) : dT (upY s) = [.int (s.1 / 12 + 400), .int (s.1 % 12 + 1), .int s.2] := by
  unfold dT upY
  show [V.int ((s.1 + 4800) / 12), .int ((s.1 + 4800) % 12 + 1), .int s.2] = _
  rw [show (s.1 + 4800) / 12 = s.1 / 12 + 400 by omega, show (s.1 + 4800) % 12 = s.1 % 12 by omega]
end Mc
/-! texts of numbers, dates and steps -/
namespace Mc
open PySem PySem.Spec PyProof.Rows L2
def iT (i : Int) : Str := Str.ofString (toString i)
theorem iT_len {i : Int} (h : i.natAbs < 2 ^ 200) : (iT i).length ≤ 201 := by
  unfold iT
  rw [PySem.ofString_length]
  exact int_text_length_le (by decide) (PySem.Flt.log2_lt_of (by decide) h)
theorem iT_log {i : Int} (h : i.natAbs < 2 ^ 200) : i.natAbs.log2 < 1920 := Nat.lt_of_lt_of_le (PySem.Flt.log2_lt_of (k := 200) (by decide) h) (by decide)
/-- a step's text, a list's, a date's -/
def stT (i : Int) : Str := if 0 < i then ("+" : Str) ++ iT i else iT i
def rowT (ns : List Int) : Str := if ns.isEmpty = true then ("none" : Str) else Txt.join " " (ns.map stT)
def dtT (s : Dt) : Str := iT (s.1 / 12) ++ ("/" : Str) ++ iT (s.1 % 12 + 1) ++ ("/" : Str) ++ iT s.2
theorem stT_len {i : Int} (h : i.natAbs < 2 ^ 200) : (stT i).length ≤ 202 := by
  have e := iT_len h
  have e1 : (Str.ofString "+").length = 1 := rfl
  unfold stT
  split
  · rw [PySem.Str.length_append]
    omega
  · omega
theorem row_fits : ∀ {ns : List Int}, (∀ k ∈ ns, k.natAbs < 2 ^ 200) → ((ns.map stT).map (·.length)).sum ≤ 202 * ns.length
  | [], _ => by simp
  | n :: ns, h => by
    have a := stT_len (h n (List.mem_cons_self ..))
    have b := row_fits (ns := ns) fun k hk => h k (List.mem_cons_of_mem _ hk)
    rw [List.map_cons, List.map_cons, List.sum_cons, List.length_cons]
    omega
theorem row_ok {ns : List Int} (h : ∀ k ∈ ns, k.natAbs < 2 ^ 200) (hl : ns.length ≤ 5000) : ((ns.map stT).map (·.length)).sum + (ns.map stT).length * (Str.ofString " ").length ≤ 16777216 := by
  have a := row_fits h
  rw [List.length_map, show (Str.ofString " ").length = 1 from rfl]
  omega
section
variable {X : Cx} {σ : L2.St} {H : Hp} {Q : VK} {te to : TE} {i : Int} {K : PySem.W.Frag}
def rFmt : V → Hp → VK → Prop := fun x H1 Q => (∃ y : Str, x = .str y ∧ y.length ≤ sizeLine ∧ Q (.str y) H1) ∨ ∃ i : Int, x = .int i ∧ i.natAbs.log2 < 1920 ∧ Q (.str (toString i)) H1
theorem st_fmt (h : te σ H fun x H1 => rFmt x H1 Q) : tFmt te σ H Q := h
theorem st_fmtI (h : i.natAbs < 2 ^ 200) (q : Q (.str (iT i)) H) : rFmt (.int i) H Q := .inr ⟨i, rfl, iT_log h, q⟩
def rJs (ts : List TE) (acc : Str) (σ : L2.St) : V → Hp → (Str → Hp → Prop) → Prop := fun x H1 R => ∃ y : Str, x = .str y ∧ (acc ++ y).length ≤ sizeLine ∧ tJs ts (acc ++ y) σ H1 R
theorem st_js {t : TE} {ts : List TE} {acc : Str} {R : Str → Hp → Prop} (h : t σ H fun x H1 => rJs ts acc σ x H1 R) : tJs (t :: ts) acc σ H R := h
theorem st_jsE {acc : Str} {R : Str → Hp → Prop} (h : R acc H) : tJs [] acc σ H R := h
theorem st_jsS {ts : List TE} {acc y : Str} {R : Str → Hp → Prop} (hl : (acc ++ y).length ≤ 100000) (h : tJs ts (acc ++ y) σ H R) : rJs ts acc σ (.str y) H R := ⟨y, rfl, Nat.le_trans hl (by decide), h⟩
def tFst (ts : List TE) : TE := fun σ H Q => tJs ts Str.empty σ H fun out H1 => Q (.str out) H1
theorem pe_fst {v1 v2 : Expr} {rest : List Expr} {ts : List TE} {pos : Pos} (h : PJ X (v1 :: v2 :: rest) ts) : PE X (.JoinedStr (v1 :: v2 :: rest) pos) (tFst ts) := pe_joined h
theorem st_fst {ts : List TE} (h : tJs ts Str.empty σ H fun out H1 => Q (.str out) H1) : tFst ts σ H Q := h
/-- a + b, texts -/
def rAddS : V → V → Hp → VK → Prop := fun x y H Q => ∃ i j, x = .str i ∧ y = .str j ∧ i.length + j.length ≤ sizeLine ∧ Q (.str (i ++ j)) H
theorem op_addS : OpR X (binaryOp .Add) rAddS := op_add_str
theorem st_addS {a b : Str} (hl : a.length + b.length ≤ 100000) (q : Q (.str (a ++ b)) H) : rAddS (.str a) (.str b) H Q := ⟨a, b, rfl, rfl, Nat.le_trans hl (by decide), q⟩
/-- str(i) -/
def rStrI : List V → Hp → VK → Prop := fun xs H Q => ∃ i, xs = [.int i] ∧ i.natAbs.log2 < 1920 ∧ Q (.str (toString i)) H
theorem call_strI : CallR X (.type "str") rStrI := call_str_int
theorem st_strI (h : i.natAbs < 2 ^ 200) (q : Q (.str (iT i)) H) : rStrI [.int i] H Q := ⟨i, rfl, iT_log h, q⟩
/-- sep.join(xs) -/
def rJoin (K : PySem.W.Frag) : V → List V → Hp → VK → Prop := fun x xs H Q => ∃ a p, ∃ ys : List Str, x = .str a ∧ xs = [.ref p] ∧ (SqL K H p (ys.map V.str) ∨ SqT K H p (ys.map V.str)) ∧
  (ys.map (·.length)).sum + ys.length * a.length ≤ 16777216 ∧ Q (.str (Txt.join a ys)) H
def tJoinK (K : PySem.W.Frag) (to te : TE) : TE := tM1 (rJoin K) to te
theorem st_joinK (h : to σ H fun x H1 => (∃ a, x = .str a) ∧ te σ H1 fun y H2 => rJoin K x [y] H2 Q) : tJoinK K to te σ H Q := h
theorem st_strx {a : Str} {R : Prop} (h : R) : (∃ b, V.str a = .str b) ∧ R := ⟨⟨a, rfl⟩, h⟩
theorem st_join {a : Str} {p : Addr} {ys : List Str} (h : SqL K H p (ys.map V.str)) (hl : (ys.map (·.length)).sum + ys.length * a.length ≤ 16777216) (q : Q (.str (Txt.join a ys)) H) : rJoin K (.str a) [.ref p] H Q := ⟨a, p, ys, rfl, rfl, .inl h, hl, q⟩
theorem dp_strs : ∀ ss : List Str, DpAll K H (ss.map V.str) (ss.map PyData.str)
  | [] => .nil
  | b :: bs => .cons (.str b) (dp_strs bs)
end
/-- texts that lie: every sign is one -/
theorem so_lit (s : String) : PyData.strOk (Str.ofString s) = true := by
  unfold PyData.strOk
  rw [← Array.all_toList, signs_ofString, List.all_map]
  refine List.all_eq_true.mpr fun c _ => decide_eq_true ?_
  have h : c.toNat.isValidChar := c.valid
  rcases h with h | ⟨_, h⟩
  · exact Nat.lt_trans h (by decide)
  · exact h
theorem so_app {a b : Str} (ha : PyData.strOk a = true) (hb : PyData.strOk b = true) : PyData.strOk (a ++ b) = true := by
  unfold PyData.strOk at *
  rw [PySem.Str.cps_append, ← Array.all_toList, Array.toList_append, List.all_append, Array.all_toList, Array.all_toList, ha, hb]
  rfl
theorem so_join {y : Str} (hy : PyData.strOk y = true) : ∀ {ps : List Str}, (∀ p ∈ ps, PyData.strOk p = true) → PyData.strOk (Txt.join y ps) = true := by
  intro ps h
  rw [TL.join_eq]
  induction ps with
  | nil => exact (by decide +kernel : PyData.strOk Str.empty = true)
  | cons x r ih =>
    cases r with
    | nil => exact h x (List.mem_cons_self ..)
    | cons z r =>
      show PyData.strOk (x ++ y ++ Str.join y (z :: r)) = true
      exact so_app (so_app (h x (List.mem_cons_self ..)) hy) (ih fun p hp => h p (List.mem_cons_of_mem _ hp))
theorem so_int (i : Int) : PyData.strOk (iT i) = true := so_lit _
theorem so_st (i : Int) : PyData.strOk (stT i) = true := by
  unfold stT
  split
  · exact so_app (so_lit _) (so_int _)
  · exact so_int _
theorem so_row (ns : List Int) : PyData.strOk (rowT ns) = true := by
  unfold rowT
  split
  · exact so_lit _
  · refine so_join (so_lit _) fun p hp => ?_
    obtain ⟨k, _, rfl⟩ := List.mem_map.mp hp
    exact so_st k
theorem so_date (s : Dt) : PyData.strOk (dtT s) = true := so_app (so_app (so_app (so_app (so_int _) (so_lit _)) (so_int _)) (so_lit _)) (so_int _)
theorem Sm.str {i : Str} (h : PyData.strOk i = true) : Sm (.str i) 0 1 := ⟨by unfold PyData.canLay0; exact h, by unfold PyData.depth; omega, by unfold cntD; omega⟩
theorem Sm.strs : ∀ {bs : List Str}, (∀ b ∈ bs, PyData.strOk b = true) → SmA (bs.map PyData.str) 0 bs.length
  | [], _ => Sm.nil
  | b :: bs, h => SmA.mono (Sm.cons (Sm.str (h b (List.mem_cons_self ..))) (Sm.strs fun z hz => h z (List.mem_cons_of_mem _ hz))) (by omega) (by rw [List.length_cons]; omega)
/-- xs == [], texts -/
theorem st_eqNilS {K : PySem.W.Frag} {H : Hp} {Q : VK} {a b : Addr} {ss : List Str} (h : SqL K H a (ss.map V.str)) (hb : SqL K H b []) (ok : ∀ s ∈ ss, PyData.strOk s = true) (q : Q (.bl ss.isEmpty) H) : rEqD K (.ref a) (.ref b) H Q := by
  refine ⟨_, .list [], .lst h (dp_strs ss), .lst hb .nil, (Sm.list (Sm.strs ok)).sh (by decide), rfl, ?_⟩
  cases ss with
  | nil => exact q
  | cons n ns => exact q
theorem empty_lit (x : Str) : Str.ofString "" ++ x = x := by
  rw [show Str.ofString "" = Str.empty from by decide +kernel, PySem.Str.empty_append]
end Mc
/-! sets of ints that are made of lists; their order; sums of first steps -/
namespace Mc
open PySem PySem.Spec PyProof.Rows L2
/-- a set without members -/
def noSet (w : World) : Obj := { cls := .type "set", dict := none, data := .set #[] 0 (.fresh 0 0 (!w.params.followText "set-order")) }
theorem ints_get {its : Array Value} {ns : List Int} (h : IntsAre its.toList ns) (i : Nat) (v : Value) (hv : its[i]? = some v) : ∃ k t, ns[i]? = some k ∧ v = .int k t := by
  have hl := IntsAre.length h
  rw [Array.length_toList] at hl
  obtain ⟨hi, _⟩ := Array.getElem?_eq_some_iff.mp hv
  have hi2 : i < ns.length := by omega
  obtain ⟨t, e⟩ := IntsAre.int_at h i v (by rw [Array.getElem?_toList]; exact hv)
  refine ⟨ns[i], t, List.getElem?_eq_getElem hi2, ?_⟩
  rw [e, List.getD_eq_getElem?_getD, List.getElem?_eq_getElem hi2]
  rfl
section
variable {P : Program} {w : World} {A : Around} {E : Value → Shared → Prop} {s : Shared} {l S : Addr} {its : Array Value} {ns : List Int}
/-- set.__init__ fills S from a list -/
theorem setL_fill {R : Result → Shared → Prop} (hh : A.handled = none) (hS : s.heap.get? S = some (noSet w)) (hl : s.heap.IsList l its) (ne : l ≠ S) (hi : IntsAre its.toList ns) (hb : ns.length + 1 < scanBound)
    (q : ∀ h' tk c, SetR w h' S (fun j => decide (j ∈ ns)) c → (∀ b o, b ≠ S → s.heap.get? b = some o → h'.get? b = some o) → R (.ok (.ret .none)) { s with heap := h', toks := tk }) :
    codeAny (model P w) A (.call (.builtin "set.__init__") ⟨[.ref S, .ref l], []⟩) R s := by
  refine codeAny_call_builtin F.called_set.init.plain F.entry_set_init (check_set_init_1 ⟨_, hS, rfl⟩ ?_)
  have sz : its.size = ns.length := by
    have e := IntsAre.length hi
    rw [Array.length_toList] at e
    exact e
  have hl0 := hl
  obtain ⟨ol, h1, h2, nl, h3⟩ := hl
  obtain ⟨c0, d0, a0, s0⟩ := ol
  simp only at h2 h3
  subst h2
  subst h3
  have sub1 := F.sub_list_set
  have sub2 := F.sub_list_frozenset
  have nd : (Value.type "list" == Value.type "dict") = false := by decide
  unfold Builtin.«set.__init__» noKeywords Builtin.Frozenset.updateFrom
  generalize eP : pyIter = PI
  wp_walk
  subst eP
  refine wpAny_pyIter_list hl0 ?_
  refine wpAny_bind (wpAny_runValue ?_)
  have ltl : l < s.heap.objs.size := Heap.lt_size h1
  have ltS : S < s.heap.objs.size := Heap.lt_size hS
  have h3n : A.in1.in1.handled = none := by simp [hh]
  refine set_update_ints ((Walks.list h3n s.heap.objs.size l (Nat.ne_of_lt ltl) its).toS) S ?cm ns sz hb (ints_get hi) (its.size - 0) 0 _ (by omega) (Nat.zero_le _) ?ct ?cs ?cr
  case ct => exact ⟨⟨_, Heap.get?_push_size _ rfl, rfl, rfl⟩, hl0.push _⟩
  case cm =>
    intro z
    simp only [List.mem_cons, List.not_mem_nil, or_false] at z
    rcases z with z | z
    · exact absurd z (Nat.ne_of_lt ltS)
    · exact ne z.symm
  case cs => exact ⟨0, Nat.le_refl _, setR_new_at (Heap.get?_push_of_some _ hS)⟩
  case cr =>
    intro s' c hm _ hR
    obtain ⟨h', g2, d', tk', os'⟩ := s'
    obtain rfl : g2 = s.gens := hm.gens
    obtain rfl : d' = s.drawn := hm.drawn
    obtain rfl : os' = s.os := hm.os
    refine wpAny_pure ?_
    show wpAny _ _ (ret Value.none) _ _ _
    refine wpAny_pure (q h' tk' c hR fun b o nb e => hm.heap b o ?_ (Heap.get?_push_of_some _ e))
    simp only [List.mem_cons, List.not_mem_nil, or_false, not_or]
    exact ⟨nb, Nat.ne_of_lt (Heap.lt_size e)⟩
/-- set(l), l a list of ints -/
theorem setL_call {Q : Value → Shared → Prop} (hh : A.handled = none) (hl : s.heap.IsList l its) (hi : IntsAre its.toList ns) (hb : ns.length + 1 < scanBound)
    (q : ∀ h' tk c, SetR w h' s.heap.objs.size (fun j => decide (j ∈ ns)) c → (∀ b o, s.heap.get? b = some o → h'.get? b = some o) → Q (.ref s.heap.objs.size) { s with heap := h', toks := tk }) :
    wpAny (model P w) A (call (.type "set") [.ref l]) Q E s := by
  have own := F.called_set
  have ct := F.typeCall_set_1 (.ref l)
  obtain ⟨c1, tl, mro⟩ := own.mro
  have made := own.made
  have subs := own.sub
  have nt := own.notType
  have cc := own.canCreate
  refine wpAny_call (codeAny_of_tree ?_)
  show wpAny _ _ (callAny (.type "set") _) _ _ _
  refine wpAny_pure ⟨Code.quiet_builtin _ (by decide +kernel), codeAny_builtin F.entry_type_call ?_⟩
  rw [Around.under_plain (weight_type_call_type "set" [.ref l] []) rfl]
  repeat (any_goals (first | assumption | wp_step))
  refine codeAny_mono (code_set_led1 (.ref l) (E := E) (Q₁ := fun v s1 => v = .ref s.heap.objs.size ∧ s1 = { s with heap := s.heap.push (noSet w) }) ⟨rfl, rfl⟩) fun r s1 hr => ?_
  match r, hr with
  | .error e, hr => exact hr
  | .ok .next, hr => exact hr.elim
  | .ok .brk, hr => exact hr.elim
  | .ok .cont, hr => exact hr.elim
  | .ok (.ret v), ⟨ev, es⟩ =>
    subst ev
    subst es
    have at_ : (s.heap.push (noSet w)).get? s.heap.objs.size = some (noSet w) := Heap.get?_push_size _ rfl
    have ty : Shared.TypeIs { s with heap := s.heap.push (noSet w) } (.ref s.heap.objs.size) "set" := ⟨_, at_, rfl⟩
    have il := own.init.lookup
    have ib := own.init.bind (.ref s.heap.objs.size)
    have lt : l < s.heap.objs.size := by
      obtain ⟨o, ho, _⟩ := hl
      exact Heap.lt_size ho
    repeat (any_goals (first | assumption | wp_step))
    refine codeAny_mono (setL_fill (R := wants (fun v s2 => v = .none ∧ ∃ h' tk, s2 = { s with heap := h', toks := tk } ∧ ∃ c, SetR w h' s.heap.objs.size (fun j => decide (j ∈ ns)) c ∧ ∀ b o, s.heap.get? b = some o → h'.get? b = some o) E)
      (by simp [hh]) at_ (hl.push _) (Nat.ne_of_lt lt) hi hb fun h' tk c hR k => ⟨rfl, h', tk, rfl, c, hR, fun b o e => k b o (Nat.ne_of_lt (Heap.lt_size e)) (Heap.get?_push_of_some _ e)⟩) fun r2 s2 hr2 => ?_
    match r2, hr2 with
    | .error e, hr2 => exact hr2
    | .ok .next, hr2 => exact hr2.elim
    | .ok .brk, hr2 => exact hr2.elim
    | .ok .cont, hr2 => exact hr2.elim
    | .ok (.ret v), ⟨ev, h', tk, es, c, hR, k⟩ =>
      subst ev
      subst es
      repeat (any_goals (first | assumption | wp_step))
      exact q h' tk c hR k
end
end Mc
/-! sets of ints over the hand layer; their order; sums of first steps -/
namespace Mc
open PySem PySem.Spec PyProof.Rows L2
section
variable {X : Cx}
theorem intsAre_of : ∀ {ns : List Int} {us : List Value}, Vals (ns.map V.int) us → IntsAre us ns
  | [], _, .nil => .nil
  | n :: ns, _, .cons r t => by
    obtain ⟨k, rfl⟩ := r
    exact .cons n k (intsAre_of t)
/-- set(l) -/
def rSetI (K : PySem.W.Frag) (w : World) : List V → Hp → VK → Prop := fun xs H Q => ∃ (l : Addr) (ns : List Int), xs = [.ref l] ∧ SqL K H l (ns.map V.int) ∧ ns.length ≤ 4000 ∧
  ∀ p c, H p = none → Q (.ref p) (upd H p (SetO w p (fun j => decide (j ∈ ns)) c))
theorem cr_setI (hc : X.calm = true) : CallR X (.type "set") (rSetI X.K X.w) := by
  intro pins s σ H xs us Q I r h
  obtain ⟨l, ns, rfl, hs, hl, q⟩ := h
  obtain ⟨its, rv, pl, _⟩ := I.list hs
  rw [Vals.ref1 r]
  have e : ns.length + 1 < scanBound := by
    unfold scanBound
    omega
  refine setL_call (ns := ns) (I.ok.hd hc) pl.isList (by simpa using intsAre_of rv) e fun h' tk c hR k => ?_
  exact ⟨.ref _, upd H s.heap.objs.size (SetO X.w s.heap.objs.size (fun j => decide (j ∈ ns)) c), I.laid (t' := tk) k (Nat.le_refl _) (setO_new hR), rfl, q _ _ (I.hok.fresh (Nat.le_refl _))⟩
/-- len(s), s a set of ints -/
def rLenS (w : World) : List V → Hp → VK → Prop := fun xs H Q => ∃ (a : Addr) (S : Int → Bool) (c : Nat), xs = [.ref a] ∧ H a = some (SetO w a S c) ∧
  ∀ ks : List Int, ks.Nodup → (∀ k, S k = true ↔ k ∈ ks) → Q (.int ks.length) H
theorem cr_lenS : CallR X (.builtin "len") (rLenS X.w) := by
  intro pins s σ H xs us Q I r h
  obtain ⟨a, S, c, rfl, ha, q⟩ := h
  obtain ⟨o, es, ep, t, ho, hex, hd, g, nd, hm, hb, hf, hn, hr, hl⟩ := setO_get I ha
  rw [Vals.ref1 r]
  have e : scanBound = 4096 := rfl
  refine call_len_set ho hex hd hf (by omega) ⟨.int es.size, H, I.tok _, ⟨_, rfl⟩, ?_⟩
  have q2 := q (es.toList.map keyOf) nd hm
  rw [List.length_map, Array.length_toList] at q2
  exact q2
/-- sorted(s), s a set of ints of any size -/
def rSortS (w : World) : List V → Hp → VK → Prop := fun xs H Q => ∃ (a : Addr) (S : Int → Bool) (c : Nat), xs = [.ref a] ∧ H a = some (SetO w a S c) ∧
  ∀ (ns : List Int) (p : Addr), ns.Pairwise (· < ·) → (∀ k, k ∈ ns ↔ S k = true) → H p = none → Q (.ref p) (upd H p (.lst (ns.map V.int)))
theorem asc_of : ∀ {l : List Int}, l.Pairwise (· ≤ ·) → l.Nodup → l.Pairwise (· < ·)
  | [], _, _ => .nil
  | x :: l, h, d => by
    obtain ⟨h1, h2⟩ := List.pairwise_cons.mp h
    obtain ⟨d1, d2⟩ := List.nodup_cons.mp d
    refine List.pairwise_cons.mpr ⟨fun y hy => Int.lt_iff_le_and_ne.mpr ⟨h1 y hy, fun z => d1 (z ▸ hy)⟩, asc_of h2 d2⟩
theorem ints_keys : ∀ (l : List Value), (∀ v ∈ l, ∃ k tk, v = Value.int k tk) → IntsAre l (l.map SrtO.iv)
  | [], _ => .nil
  | v :: l, h => by
    obtain ⟨k, tk, rfl⟩ := h v (List.mem_cons_self ..)
    exact .cons k tk (ints_keys l fun u hu => h u (List.mem_cons_of_mem _ hu))
theorem cr_sortS (hc : X.calm = true) : CallR X (.builtin "sorted") (rSortS X.w) := by
  intro pins s σ H xs us Q I r h
  obtain ⟨a, S, c, rfl, ha, q⟩ := h
  obtain ⟨o, es, ep, t, ho, hex, hd, g, nd, hm, hb, hf, hn, hr, hl⟩ := setO_get I ha
  rw [Vals.ref1 r]
  have e4 : scanBound = 4096 := rfl
  refine Calls.call_function_entry kind_sorted plain_sorted entry_sorted (args_sorted1 _) ?_
  unfold Builtin.«sorted»
  refine wpAny_bind (m := checkCount "sorted" 1 1 _) (wpAny_pure (wpAny_bind (collect_set (A := X.A.in1) (I.ok.hd hc) ⟨o, ho, hex.1, hd⟩ hf hb hr hl fun s1 vs k1 z1 g1 o1 pm => ?_)))
  have vl : vs.length = es.size := by rw [pm.length_eq, List.length_map, Array.length_toList]
  have vsz : vs.length ≤ sizeLine := by rw [vl, sizeLine_eq]; omega
  have hI : IntsAre vs (vs.map SrtO.iv) := ints_keys vs fun v hv => by
    obtain ⟨e, he, rfl⟩ := List.mem_map.mp (pm.mem_iff.mp hv)
    obtain ⟨k, tk, h1, _⟩ := g e he
    exact ⟨k, tk, h1⟩
  have pk : (vs.map SrtO.iv).Perm (es.toList.map keyOf) := by
    have q := pm.map SrtO.iv
    rw [List.map_map] at q
    refine q.trans (List.Perm.of_eq (List.map_congr_left fun e he => ?_))
    obtain ⟨k, tk, h1, _⟩ := g e he
    show SrtO.iv e.2 = keyOf e
    unfold keyOf
    rw [h1]
    rfl
  refine wpAny_bind (wpAny_newList ?_ vsz)
  have at_ : (s1.heap.push (seqObj "list" vs.toArray 0)).get? s1.heap.objs.size = some (seqObj "list" vs.toArray 0) := Heap.get?_push_size _ rfl
  refine wpAny_bind (wpAny_holding (wpAny_call_entry slot_list_sort ⟨_, at_, rfl⟩ entry_list_sort
    (SrtO.list_sort_ord SrtO.swo_int at_ vsz (fun h2 => SrtO.ints_sortable hI h2) fun out a1 a2 => ⟨.none, rfl, ?_⟩) (args_list_sort _)))
  obtain ⟨b1, b2, b3⟩ := SrtO.ints_out hI a1 a2
  obtain ⟨n, hat⟩ := sortedHeap_at (vs := vs) (out := out.toArray) at_
  have pn : (out.map SrtO.iv).Perm (es.toList.map keyOf) := b2.trans pk
  have k2 : ∀ b u, s.heap.get? b = some u → (sortedHeap (s1.heap.push (seqObj "list" vs.toArray 0)) s1.heap.objs.size vs out.toArray).get? b = some u := fun b u e => by
    have e1 := k1 b u e
    have lt := Heap.lt_size e1
    rw [sortedHeap_old (Nat.ne_of_lt lt) (by rw [size_push']; exact Nat.lt_succ_of_lt lt)]
    exact Heap.get?_push_of_some _ e1
  have hnp : H s1.heap.objs.size = none := I.hok.fresh z1
  have len : ((out.map SrtO.iv).map V.int).length ≤ sizeLine := by
    rw [List.length_map, pn.length_eq, List.length_map, Array.length_toList, sizeLine_eq]
    omega
  obtain ⟨hp1, gg1, dd1, tt1, os1⟩ := s1
  obtain ⟨hp0, gg0, dd0, tt0, os0⟩ := s
  simp only at g1 o1
  subst g1
  subst o1
  have J := I.call (H' := upd H hp1.objs.size (.lst ((out.map SrtO.iv).map V.int))) (h' := sortedHeap (hp1.push (seqObj "list" vs.toArray 0)) hp1.objs.size vs out.toArray) (g' := gg1) (t' := tt1) (d' := dd1) (ch := [])
    (Un.laid k2 z1 hnp) (I.hok.laid k2 z1 (show ObjOk _ _ _ _ _ (.lst _) from ⟨len, out, n, vals_of_ints b1, hat⟩)) I.bare (fun _ z => nomatch z)
  exact wpAny_pure ⟨_, rfl, .ref _, _, J, rfl, q _ _ (asc_of b3 (pn.nodup_iff.mpr nd)) (fun k => by rw [pn.mem_iff, hm k]) hnp⟩
end
section
variable {H : Hp} {Q : VK} {K : PySem.W.Frag} {w : World}
theorem st_setI {l : Addr} {ns : List Int} (h : SqL K H l (ns.map V.int)) (hl : ns.length ≤ 4000) (q : ∀ p c, H p = none → Q (.ref p) (upd H p (SetO w p (fun j => decide (j ∈ ns)) c))) : rSetI K w [.ref l] H Q := ⟨l, ns, rfl, h, hl, q⟩
end
/-! ### ascending lists without duplicates -/
def insU (x : Int) : List Int → List Int
  | [] => [x]
  | y :: l => if x < y then x :: y :: l else if x = y then y :: l else y :: insU x l
def srt : List Int → List Int
  | [] => []
  | x :: l => insU x (srt l)
theorem mem_insU {x k : Int} : ∀ {l : List Int}, k ∈ insU x l ↔ k = x ∨ k ∈ l
  | [] => by simp [insU]
  | y :: l => by
    have ih := @mem_insU x k l
    unfold insU
    split
    · simp
    · split
      · rename_i h
        subst h
        simp
      · rw [List.mem_cons, ih, List.mem_cons]
        constructor
        · rintro (h | h | h)
          · exact .inr (.inl h)
          · exact .inl h
          · exact .inr (.inr h)
        · rintro (h | h | h)
          · exact .inr (.inl h)
          · exact .inl h
          · exact .inr (.inr h)
theorem mem_srt {k : Int} : ∀ {l : List Int}, k ∈ srt l ↔ k ∈ l
  | [] => by simp [srt]
  | y :: l => by
    have ih := @mem_srt k l
    rw [srt, mem_insU, ih, List.mem_cons]
theorem pw_insU {x : Int} : ∀ {l : List Int}, l.Pairwise (· < ·) → (insU x l).Pairwise (· < ·)
  | [], _ => by simp [insU]
  | y :: l, h => by
    obtain ⟨h1, h2⟩ := List.pairwise_cons.mp h
    unfold insU
    split
    · rename_i c
      refine List.pairwise_cons.mpr ⟨fun z hz => ?_, h⟩
      rcases List.mem_cons.mp hz with e | e
      · omega
      · have := h1 z e
        omega
    · split
      · exact h
      · refine List.pairwise_cons.mpr ⟨fun z hz => ?_, pw_insU h2⟩
        rcases mem_insU.mp hz with e | e
        · omega
        · exact h1 z e
theorem pw_srt : ∀ l : List Int, (srt l).Pairwise (· < ·)
  | [] => List.Pairwise.nil
  | x :: l => pw_insU (pw_srt l)
/-- an ascending list without duplicates is told by its members -/
theorem asc_eq : ∀ {l m : List Int}, l.Pairwise (· < ·) → m.Pairwise (· < ·) → (∀ k, k ∈ l ↔ k ∈ m) → l = m
  | [], [], _, _, _ => rfl
  | [], y :: m, _, _, h => absurd ((h y).mpr (List.mem_cons_self ..)) (by simp)
  | x :: l, [], _, _, h => absurd ((h x).mp (List.mem_cons_self ..)) (by simp)
  | x :: l, y :: m, h1, h2, h => by
    obtain ⟨a1, a2⟩ := List.pairwise_cons.mp h1
    obtain ⟨b1, b2⟩ := List.pairwise_cons.mp h2
    have e : x = y := by
      have p := (h x).mp (List.mem_cons_self ..)
      have q := (h y).mpr (List.mem_cons_self ..)
      rcases List.mem_cons.mp p with p | p
      · exact p
      · rcases List.mem_cons.mp q with q | q
        · exact q.symm
        · have := a1 y q
          have := b1 x p
          omega
    subst e
    rw [asc_eq a2 b2 fun k => ?_]
    constructor
    · intro hk
      rcases List.mem_cons.mp ((h k).mp (List.mem_cons_of_mem _ hk)) with e | e
      · have := a1 k hk
        omega
      · exact e
    · intro hk
      rcases List.mem_cons.mp ((h k).mpr (List.mem_cons_of_mem _ hk)) with e | e
      · have := b1 k hk
        omega
      · exact e
theorem srt_of {l ns : List Int} (h : l.Pairwise (· < ·)) (e : ∀ k, k ∈ l ↔ k ∈ ns) : l = srt ns := asc_eq h (pw_srt ns) fun k => (e k).trans mem_srt.symm
theorem srt_ext {l m : List Int} (h : ∀ k, k ∈ l ↔ k ∈ m) : srt l = srt m := srt_of (pw_srt l) fun k => mem_srt.trans (h k)
theorem insU_len (x : Int) : ∀ l : List Int, (insU x l).length ≤ l.length + 1
  | [] => by simp [insU]
  | y :: l => by
    have := insU_len x l
    unfold insU
    split
    · simp
    · split
      · simp
      · simp; omega
theorem srt_len : ∀ l : List Int, (srt l).length ≤ l.length
  | [] => by simp [srt]
  | x :: l => by
    have := srt_len l
    have := insU_len x (srt l)
    rw [srt, List.length_cons]
    omega
/-! ### sums of first steps -/
def smF (k : Int) : List Int → List Int
  | [] => [k]
  | n :: ns => k :: smF (k + n) ns
/-- 0 and the sums of the first steps -/
def sms (ns : List Int) : List Int := smF 0 ns
theorem smF_snoc (n : Int) : ∀ (ns : List Int) (k : Int), smF k (ns ++ [n]) = smF k ns ++ [k + ns.sum + n]
  | [], k => by simp [smF]
  | m :: ns, k => by
    rw [List.cons_append, smF, smF_snoc n ns, smF, List.sum_cons, List.cons_append, show k + m + ns.sum + n = k + (m + ns.sum) + n by omega]
theorem sms_snoc (ns : List Int) (n : Int) : sms (ns ++ [n]) = sms ns ++ [ns.sum + n] := by
  unfold sms
  rw [smF_snoc]
  simp
theorem smF_len : ∀ (ns : List Int) (k : Int), (smF k ns).length = ns.length + 1
  | [], k => rfl
  | n :: ns, k => by
    rw [smF, List.length_cons, smF_len ns, List.length_cons]
theorem sms_len (ns : List Int) : (sms ns).length = ns.length + 1 := smF_len ns 0
theorem smF_last : ∀ (ns : List Int) (k : Int), (smF k ns).getLast? = some (k + ns.sum)
  | [], k => by simp [smF]
  | n :: ns, k => by
    have h := smF_last ns (k + n)
    have h2 : smF (k + n) ns ≠ [] := fun z => by rw [z] at h; cases h
    rw [smF, List.getLast?_cons, h, List.sum_cons]
    show some (k + n + ns.sum) = _
    rw [show k + n + ns.sum = k + (n + ns.sum) by omega]
theorem sms_last (ns : List Int) : (sms ns).getLast? = some ns.sum := by
  have h := smF_last ns 0
  rw [Int.zero_add] at h
  exact h
theorem smF_head : ∀ (ns : List Int) (k : Int), k ∈ smF k ns
  | [], k => by simp [smF]
  | n :: ns, k => by simp [smF]
theorem sms_zero (ns : List Int) : 0 ∈ sms ns := smF_head ns 0
/-- the least of a day and the lengths of months -/
def dayL (n d : Int) (vs : List Int) : Int := (vs.map fun k => lenN (n + k)).foldl min d
theorem foldl_min_ext {l m : List Int} {a : Int} (h : ∀ k, k ∈ l ↔ k ∈ m) : l.foldl min a = m.foldl min a := by
  refine min_eq ?_ ?_
  · rcases List.mem_cons.mp (foldl_min_mem l a) with e | e
    · rw [e]
      exact List.mem_cons_self ..
    · exact List.mem_cons_of_mem _ ((h _).mp e)
  · intro y hy
    obtain ⟨q1, q2⟩ := foldl_min_le l a
    rcases List.mem_cons.mp hy with e | e
    · rw [e]
      exact q1
    · exact q2 y ((h y).mpr e)
theorem dayL_ext {n d : Int} {l m : List Int} (h : ∀ k, k ∈ l ↔ k ∈ m) : dayL n d l = dayL n d m := by
  refine foldl_min_ext fun k => ?_
  simp only [List.mem_map]
  exact ⟨fun ⟨a, b, c⟩ => ⟨a, (h a).mp b, c⟩, fun ⟨a, b, c⟩ => ⟨a, (h a).mpr b, c⟩⟩
theorem mvF_eq (n : Int) : ∀ (ns : List Int) (k d : Int), d ≤ lenN (n + k) → ns.foldl mvS (n + k, d) = (n + (k + ns.sum), dayL n d (smF k ns))
  | [], k, d, h => by
    have e : min d (lenN (n + k)) = d := by omega
    simp [dayL, smF, e]
  | x :: ns, k, d, h => by
    have ih := mvF_eq n ns (k + x) (min d (lenN (n + (k + x)))) (by omega)
    rw [List.foldl_cons, show mvS (n + k, d) x = (n + (k + x), min d (lenN (n + (k + x)))) by
      unfold mvS
      show (n + k + x, min d (lenN (n + k + x))) = _
      rw [show n + k + x = n + (k + x) by omega], ih, List.sum_cons]
    refine Prod.ext ?_ ?_
    · show n + (k + x + ns.sum) = n + (k + (x + ns.sum))
      omega
    · show dayL n (min d (lenN (n + (k + x)))) (smF (k + x) ns) = dayL n d (smF k (x :: ns))
      have hm : lenN (n + (k + x)) ∈ (smF (k + x) ns).map fun j => lenN (n + j) := List.mem_map.mpr ⟨_, smF_head ns (k + x), rfl⟩
      unfold dayL
      rw [smF, List.map_cons, List.foldl_cons, show min d (lenN (n + k)) = d by omega]
      generalize (smF (k + x) ns).map (fun j => lenN (n + j)) = ls at hm
      generalize lenN (n + (k + x)) = b at hm
      refine min_eq ?_ ?_
      · have q := foldl_min_mem ls (min d b)
        rcases List.mem_cons.mp q with e | e
        · by_cases c : d ≤ b
          · rw [e, Int.min_eq_left c]
            exact List.mem_cons_self ..
          · rw [e, Int.min_eq_right (by omega)]
            exact List.mem_cons_of_mem _ hm
        · exact List.mem_cons_of_mem _ e
      · intro y hy
        obtain ⟨q1, q2⟩ := foldl_min_le ls (min d b)
        rcases List.mem_cons.mp hy with e | e
        · omega
        · exact q2 y e
theorem mvL_eq {s : Dt} (h : okS s) (ns : List Int) : mvL s ns = (s.1 + ns.sum, dayL s.1 s.2 (sms ns)) := by
  have q := mvF_eq s.1 ns 0 s.2 (by rw [Int.add_zero]; exact h.2)
  rw [Int.add_zero, Int.zero_add] at q
  exact q
theorem smF_cons (a k : Int) (ns : List Int) : smF a (k :: ns) = a :: smF (a + k) ns := rfl
/-- the differences of a list's neighbours -/
def dif (a : Int) : List Int → List Int
  | [] => []
  | b :: l => (b - a) :: dif b l
theorem smF_dif : ∀ (l : List Int) (a : Int), smF a (dif a l) = a :: l
  | [], a => rfl
  | b :: l, a => by
    rw [dif, smF, show a + (b - a) = b by omega, smF_dif l b]
theorem dif_len : ∀ (l : List Int) (a : Int), (dif a l).length = l.length
  | [], a => rfl
  | b :: l, a => by rw [dif, List.length_cons, dif_len l b, List.length_cons]
section
variable {H : Hp} {Q : VK} {w : World}
theorem st_sortS {a : Addr} {ns : List Int} {c : Nat} (h : H a = some (SetO w a (fun j => decide (j ∈ ns)) c)) (q : ∀ p, H p = none → Q (.ref p) (upd H p (.lst ((srt ns).map V.int)))) : rSortS w [.ref a] H Q :=
  ⟨a, _, c, rfl, h, fun ms p h1 h2 hp => by
    rw [srt_of h1 fun k => (h2 k).trans decide_eq_true_iff]
    exact q p hp⟩
theorem st_lenS {a : Addr} {ns : List Int} {c : Nat} (h : H a = some (SetO w a (fun j => decide (j ∈ ns)) c)) (q : Q (.int (srt ns).length) H) : rLenS w [.ref a] H Q :=
  ⟨a, _, c, rfl, h, fun ks h1 h2 => by
    have e : ks.Perm (srt ns) := (List.perm_ext_iff_of_nodup h1 ((pw_srt ns).imp fun h => Int.ne_of_lt h)).mpr fun k => (h2 k).symm.trans (decide_eq_true_iff.trans mem_srt.symm)
    rw [e.length_eq]
    exact q⟩
end
theorem sum_take {ns : List Int} {i : Nat} {k : Int} (h : ns[i]? = some k) : (ns.take (i + 1)).sum = (ns.take i).sum + k := by
  rw [List.take_add_one, h]
  simp
theorem sms_take {ns : List Int} {i : Nat} {k : Int} (h : ns[i]? = some k) : sms (ns.take (i + 1)) = sms (ns.take i) ++ [(ns.take i).sum + k] := by
  rw [List.take_add_one, h]
  exact sms_snoc _ _
theorem cutV_to {xs : List V} {c : Int} (h0 : 0 ≤ c) : cutV xs none (some c) = xs.take c.toNat := by
  obtain ⟨k, rfl⟩ := Int.eq_ofNat_of_zero_le h0
  unfold cutV
  rw [HT.sIx_none, HT.sIx_nat, List.drop_zero]
  show xs.take (min k xs.length) = xs.take k
  by_cases h : k ≤ xs.length
  · rw [Nat.min_eq_left h]
  · rw [Nat.min_eq_right (by omega), List.take_of_length_le (Nat.le_refl _), List.take_of_length_le (by omega)]
/-- list(xs) -/
def rListQ (K : PySem.W.Frag) : List V → Hp → VK → Prop := fun xs H Q => ∃ p ys, xs = [.ref p] ∧ (SqL K H p ys ∨ SqT K H p ys) ∧ ∀ l, H l = none → Q (.ref l) (upd H l (.lst ys))
theorem call_listQ {X : Cx} : CallR X (.type "list") (rListQ X.K) := call_list_of
theorem dif_get : ∀ {l : List Int} {a : Int} {i : Nat} {x y : Int}, (a :: l)[i]? = some x → l[i]? = some y → (dif a l)[i]? = some (y - x)
  | [], _, _, _, _, _, h => by cases h
  | b :: l, a, 0, x, y, h1, h2 => by
    cases h1
    cases h2
    rfl
  | b :: l, a, i + 1, x, y, h1, h2 => by
    show (dif b l)[i]? = _
    exact dif_get h1 h2
section
variable {H : Hp} {Q : VK} {K : PySem.W.Frag} {p : Addr} {ns : List Int}
theorem st_listQ {xs : List V} (h : SqL K H p xs) (q : ∀ l, H l = none → Q (.ref l) (upd H l (.lst xs))) : rListQ K [.ref p] H Q := ⟨p, xs, rfl, .inl h, q⟩
theorem st_slUp {c : Int} (h : SqL K H p (ns.map V.int)) (h0 : 0 ≤ c) (q : ∀ u, H u = none → Q (.ref u) (upd H u (.lst ((ns.take c.toNat).map V.int)))) : rSlL K (.ref p) none (some c) H Q := by
  refine st_slL h ?_
  rw [cutV_to h0, ← List.map_take]
  exact q
theorem map_erase : ∀ (l : List Int) (j : Nat), (l.map V.int).eraseIdx j = (l.eraseIdx j).map V.int
  | [], _ => rfl
  | _ :: _, 0 => rfl
  | a :: l, j + 1 => by
    show V.int a :: (l.map V.int).eraseIdx j = V.int a :: (l.eraseIdx j).map V.int
    rw [map_erase l j]
/-- xs.pop(r) -/
theorem st_popI {r : Int} (h : H p = some (.lst (ns.map V.int))) (h0 : 0 ≤ r) (h1 : r < ns.length) (hl : ns.length ≤ 100000) (q : ∀ k, ns[r.toNat]? = some k → Q (.int k) (upd H p (.lst ((ns.eraseIdx r.toNat).map V.int)))) : rPopAt (.ref p) [.int r] H Q := by
  have lt : r.toNat < ns.length := by omega
  refine ⟨p, _, r, r.toNat, .int ns[r.toNat], rfl, rfl, h, by omega, by omega, ?_, ?_, ?_⟩
  · rw [List.length_map]
    exact seqIndex_of h0 h1
  · rw [List.getElem?_map, List.getElem?_eq_getElem lt]
    rfl
  · rw [map_erase]
    exact q _ (List.getElem?_eq_getElem lt)
theorem st_zip {ta : TA} {σ : L2.St} {R : It → Hp → Prop} (h : ta σ H fun vs H1 => ∃ a b xs ys, vs = [.ref a, .ref b] ∧ SqL K H1 a xs ∧ SqL K H1 b ys ∧ R (Itz K a b) H1) : iZip K ta σ H R := h
theorem st_zip2 {a b : Addr} {xs ys : List V} {R : It → Prop} (hx : SqL K H a xs) (hy : SqL K H b ys) (q : R (Itz K a b)) : ∃ a' b' xs ys, [V.ref a, .ref b] = [.ref a', .ref b'] ∧ SqL K H a' xs ∧ SqL K H b' ys ∧ R (Itz K a' b') := ⟨a, b, xs, ys, rfl, hx, hy, q⟩
/-- a list of zip(a, b), a the longer one -/
theorem lcZ {a b D : Addr} {xs ys : List V} {g : TG} {tt : TT} {te : TE} {vs : List Nat} {σ : L2.St} {Qd : Hp → Prop} (hlen : ys.length ≤ xs.length) (Pv : Nat → Hp → Prop) (h0 : Pv 0 (upd H D (.lst [])))
    (hq : ∀ i H, Pv i H → SqL K H a xs ∧ SqL K H b ys)
    (hs : ∀ (i : Nat) (x y : V) (T : Addr) (H : Hp), xs[i]? = some x → ys[i]? = some y → Pv i H → H T = none → g (.ref T) (wipe σ vs) (upd H T (.tup [x, y])) fun σ2 H2 => wipe σ2 vs = wipe σ vs ∧ tt σ2 H2 fun c H3 =>
      if c = true then te σ2 H3 fun z H4 => ∃ acc, H4 D = some (.lst acc) ∧ acc.length < sizeLine ∧ Pv (i + 1) (upd H4 D (.lst (acc ++ [z]))) else Pv (i + 1) H3) (hd : ∀ H, Pv ys.length H → Qd H) :
    ∃ W : Nat → Nat → Hp → Prop, (∃ m, W 0 m (upd H D (.lst []))) ∧ ∀ i m H, W i m H →
      ((Itz K a b).stop i H ∧ Qd H) ∨ ((Itz K a b).go i H ∧ ∃ Nx : Hp → Prop, (∀ H', Nx H' → ∃ m', m' < m ∧ W (i + 1) m' H') ∧ ∀ x H', (Itz K a b).yld i H x H' → g x (wipe σ vs) H' fun σ2 H2 => wipe σ2 vs = wipe σ vs ∧ tt σ2 H2 fun c H3 =>
        if c = true then te σ2 H3 fun z H4 => ∃ acc, H4 D = some (.lst acc) ∧ acc.length < sizeLine ∧ Nx (upd H4 D (.lst (acc ++ [z]))) else Nx H3) := by
  refine ⟨fun i m H => m = ys.length - i ∧ i ≤ ys.length ∧ Pv i H, ⟨_, rfl, Nat.zero_le _, h0⟩, ?_⟩
  rintro i m H1 ⟨rfl, hi, p⟩
  obtain ⟨sx, sy⟩ := hq i H1 p
  by_cases c : i < ys.length
  · have gx := List.getElem?_eq_getElem (show i < xs.length by omega)
    have gy := List.getElem?_eq_getElem c
    refine .inr ⟨⟨xs, ys, _, _, sx, sy, gx, gy⟩, Pv (i + 1), fun H' p' => ⟨_, Nat.sub_succ_lt_self _ _ c, rfl, c, p'⟩, ?_⟩
    rintro v H' ⟨T, x', y', rfl, hT, rfl, fx, fy⟩
    exact hs i x' y' T H1 (fx xs sx) (fy ys sy) p hT
  · obtain rfl : i = ys.length := by omega
    exact .inl ⟨⟨xs, ys, sx, sy, .inr (Nat.le_refl _)⟩, hd H1 p⟩
end
end Mc
/-! a bag of draws: a dict with four text keys -/
namespace Mc
open PySem PySem.Spec PyProof.Rows L2
def kGreat : Key := .inr "great"
def kLeft : Key := .inr "left"
def kTurn : Key := .inr "turn"
def kFold : Key := .inr "fold"
def bagL (g : Addr) (l t f : Int) : List (Key × V) := [(kGreat, .ref g), (kLeft, .int l), (kTurn, .int t), (kFold, .int f)]
theorem key_ne {x y : Str} (h : decide (x = y) = false) : ¬ (Sum.inr x : Key) = .inr y := fun z => of_decide_eq_false h (Sum.inr.inj z)
theorem n12 : ¬ kGreat = kLeft := key_ne (by decide +kernel)
theorem n13 : ¬ kGreat = kTurn := key_ne (by decide +kernel)
theorem n14 : ¬ kGreat = kFold := key_ne (by decide +kernel)
theorem n23 : ¬ kLeft = kTurn := key_ne (by decide +kernel)
theorem n24 : ¬ kLeft = kFold := key_ne (by decide +kernel)
theorem n34 : ¬ kTurn = kFold := key_ne (by decide +kernel)
section
variable {g : Addr} {l t f z : Int}
theorem bag_g : valV (bagL g l t f) kGreat = some (.ref g) := valV_pos rfl
theorem bag_l : valV (bagL g l t f) kLeft = some (.int l) := (valV_neg n12).trans (valV_pos rfl)
theorem bag_t : valV (bagL g l t f) kTurn = some (.int t) := (valV_neg n13).trans ((valV_neg n23).trans (valV_pos rfl))
theorem bag_f : valV (bagL g l t f) kFold = some (.int f) := (valV_neg n14).trans ((valV_neg n24).trans ((valV_neg n34).trans (valV_pos rfl)))
theorem bag_pl : putK (bagL g l t f) kLeft (.int z) = bagL g z t f := by
  simp [putK, bagL, n12, n23, n24, Ne.symm n23, Ne.symm n24]
theorem bag_pt : putK (bagL g l t f) kTurn (.int z) = bagL g l z f := by
  simp [putK, bagL, n13, n23, n34, Ne.symm n34]
theorem bag_new : mergeK [] [(kGreat, .ref g), (kLeft, .int l), (kTurn, .int t), (kFold, .int f)] = bagL g l t f := by
  simp [mergeK, putK, bagL, n12, n13, n14, n23, n24, n34]
end
section
variable {σ : L2.St} {H : Hp} {Q : VK} {v : V} {td ty tv : TE} {nx : L2.St → Hp → Prop} {rt : VK} {bk ct : L2.St → Hp → Prop} {B g : Addr} {l t f z : Int} {R : V → Prop}
theorem st_disp {trs : List (TE × TE)} (h : ∀ p, H p = none → tPairs trs σ (upd H p (.dK [])) fun ps H2 => H2 p = some (.dK []) ∧ ∃ kvs : List (Key × V), ps = kvs.map (fun kv => (kV kv.1, kv.2)) ∧ kvs.length ≤ 15 ∧ Q (.ref p) (upd H2 p (.dK (mergeK [] kvs)))) : tDisp trs σ H Q := h
theorem st_pr {r : List (TE × TE)} {R : List (V × V) → Hp → Prop} (h : td σ H fun x H1 => ty σ H1 fun y H2 => tPairs r σ H2 fun ps H3 => R ((x, y) :: ps) H3) : tPairs ((td, ty) :: r) σ H R := h
theorem st_prE {R : List (V × V) → Hp → Prop} (h : R [] H) : tPairs [] σ H R := h
theorem st_dget (h : td σ H fun x H1 => ty σ H1 fun y H2 => ∃ a v, x = .ref a ∧ DGet H2 a y (some v) ∧ Q v H2) : tDGet td ty σ H Q := h
theorem st_bgG (h : H B = some (.dK (bagL g l t f))) (q : R (.ref g)) : ∃ a v, V.ref B = .ref a ∧ DGet H a (.str "great") (some v) ∧ R v := ⟨B, _, rfl, .inl ⟨_, kGreat, .inl h, rfl, bag_g.symm⟩, q⟩
theorem st_bgL (h : H B = some (.dK (bagL g l t f))) (q : R (.int l)) : ∃ a v, V.ref B = .ref a ∧ DGet H a (.str "left") (some v) ∧ R v := ⟨B, _, rfl, .inl ⟨_, kLeft, .inl h, rfl, bag_l.symm⟩, q⟩
theorem st_bgT (h : H B = some (.dK (bagL g l t f))) (q : R (.int t)) : ∃ a v, V.ref B = .ref a ∧ DGet H a (.str "turn") (some v) ∧ R v := ⟨B, _, rfl, .inl ⟨_, kTurn, .inl h, rfl, bag_t.symm⟩, q⟩
theorem st_bgF (h : H B = some (.dK (bagL g l t f))) (q : R (.int f)) : ∃ a v, V.ref B = .ref a ∧ DGet H a (.str "fold") (some v) ∧ R v := ⟨B, _, rfl, .inl ⟨_, kFold, .inl h, rfl, bag_f.symm⟩, q⟩
theorem st_dput (h : tv σ H fun v H1 => td σ H1 fun x H2 => ty σ H2 fun y H3 => ∃ a H4, x = .ref a ∧ DPut H3 a y v H4 ∧ nx σ H4) : sDPut td ty tv ⟨nx, rt, bk, ct⟩ σ H := h
theorem st_bpL {R : Hp → Prop} (h : H B = some (.dK (bagL g l t f))) (q : R (upd H B (.dK (bagL g z t f)))) : ∃ a H4, V.ref B = .ref a ∧ DPut H a (.str "left") (.int z) H4 ∧ R H4 :=
  ⟨B, _, rfl, .inl ⟨_, kLeft, h, rfl, (by decide : 4 < sizeLine), rfl⟩, by rw [bag_pl]; exact q⟩
theorem st_daug {rd : V → V → Hp → VK → Prop} (h : td σ H fun x H1 => ty σ H1 fun y H2 => ∃ a v, x = .ref a ∧ DGet H2 a y (some v) ∧ tv σ H2 fun y2 H3 => rd v y2 H3 fun z H4 => ∃ H5, DPut H4 a y z H5 ∧ nx σ H5) : sDAug td ty tv rd ⟨nx, rt, bk, ct⟩ σ H := h
/-- bag['turn'] += 1 -/
theorem st_bagT {R : Hp → Prop} (h : H B = some (.dK (bagL g l t f))) (q : R (upd H B (.dK (bagL g l (t + 1) f)))) :
    ∃ a v, V.ref B = .ref a ∧ DGet H a (.str "turn") (some v) ∧ tC (.int 1) σ H fun y2 H3 => rI0 (fun i j => .int (i + j)) v y2 H3 fun z H4 => ∃ H5, DPut H4 a (.str "turn") z H5 ∧ R H5 :=
  ⟨B, _, rfl, .inl ⟨_, kTurn, .inl h, rfl, bag_t.symm⟩, _, _, rfl, rfl, _, .inl ⟨_, kTurn, h, rfl, (by decide : 4 < sizeLine), rfl⟩, by rw [bag_pt]; exact q⟩
end
/-- [f(k) for k in ns if p(k)] -/
theorem lcFM {K : PySem.W.Frag} {a C : Addr} {ns : List Int} {g : TG} {tt : TT} {te : TE} {vs : List Nat} {σ : L2.St} {H : Hp} {Qd : Hp → Prop} (p : Int → Bool) (f : Int → Int) (hs : SqL K H a (ns.map V.int)) (n : H C = none) (hl : ns.length ≤ 100000)
    (step : ∀ (k : Int) (H' : Hp) (R : VK) (RF : Hp → Prop), k ∈ ns → Same H H' → (p k = true → ∀ H4, Same H' H4 → R (.int (f k)) H4) → (p k = false → ∀ H4, Same H' H4 → RF H4) →
      g (.int k) (wipe σ vs) H' fun σ2 H2 => wipe σ2 vs = wipe σ vs ∧ tt σ2 H2 fun b H3 => if b = true then te σ2 H3 R else RF H3)
    (q : ∀ H', Same H H' → H' C = some (.lst (((ns.filter p).map f).map V.int)) → Qd H') :
    ∃ W : Nat → Nat → Hp → Prop, (∃ m, W 0 m (upd H C (.lst []))) ∧ ∀ i m H, W i m H →
      ((Itl K a).stop i H ∧ Qd H) ∨ ((Itl K a).go i H ∧ ∃ Nx : Hp → Prop, (∀ H', Nx H' → ∃ m', m' < m ∧ W (i + 1) m' H') ∧ ∀ x H', (Itl K a).yld i H x H' → g x (wipe σ vs) H' fun σ2 H2 => wipe σ2 vs = wipe σ vs ∧ tt σ2 H2 fun b H3 =>
        if b = true then te σ2 H3 fun y H4 => ∃ acc, H4 C = some (.lst acc) ∧ acc.length < sizeLine ∧ Nx (upd H4 C (.lst (acc ++ [y]))) else Nx H3) := by
  refine lc_list (xs := ns.map V.int) (fun i H' => Same H H' ∧ H' C = some (.lst ((((ns.take i).filter p).map f).map V.int))) ⟨Same.new n, upd_same⟩ (fun i H' _ e => e.1.seq hs) (fun i x H' hx e => ?_) (fun H' e => ?_)
  · obtain ⟨sm, hC⟩ := e
    obtain ⟨k, gk, rfl⟩ := int_at hx
    refine step k H' _ _ (List.mem_of_getElem? gk) sm (fun hp H4 s4 => ?_) (fun hp H4 s4 => ?_)
    · refine ⟨_, s4 _ _ hC, len_lt ?_, same_trU n (same_tr s4 sm), ?_⟩
      · have l1 := List.length_filter_le p (ns.take i)
        rw [List.length_map, List.length_map]
        rw [List.length_take] at l1
        have l2 : i < ns.length := (List.getElem?_eq_some_iff.mp gk).1
        omega
      · rw [upd_same, List.take_add_one, gk, List.filter_append]
        simp [hp]
    · refine ⟨same_tr s4 sm, ?_⟩
      rw [s4 _ _ hC, List.take_add_one, gk, List.filter_append]
      simp [hp]
  · obtain ⟨sm, hC⟩ := e
    rw [List.length_map, List.take_length] at hC
    exact q H' sm hC
theorem filter_true (ns : List Int) : ns.filter (fun _ => true) = ns := by simp
/-- [f(k) for k in (.., ..) if p(k)] -/
theorem lcFT {K : PySem.W.Frag} {a C : Addr} {ns : List Int} {g : TG} {tt : TT} {te : TE} {vs : List Nat} {σ : L2.St} {H : Hp} {Qd : Hp → Prop} (p : Int → Bool) (f : Int → Int) (hs : SqT K H a (ns.map V.int)) (n : H C = none) (hl : ns.length ≤ 100000)
    (step : ∀ (k : Int) (H' : Hp) (R : VK) (RF : Hp → Prop), k ∈ ns → Same H H' → (p k = true → ∀ H4, Same H' H4 → R (.int (f k)) H4) → (p k = false → ∀ H4, Same H' H4 → RF H4) →
      g (.int k) (wipe σ vs) H' fun σ2 H2 => wipe σ2 vs = wipe σ vs ∧ tt σ2 H2 fun b H3 => if b = true then te σ2 H3 R else RF H3)
    (q : ∀ H', Same H H' → H' C = some (.lst (((ns.filter p).map f).map V.int)) → Qd H') :
    ∃ W : Nat → Nat → Hp → Prop, (∃ m, W 0 m (upd H C (.lst []))) ∧ ∀ i m H, W i m H →
      ((Itt K a).stop i H ∧ Qd H) ∨ ((Itt K a).go i H ∧ ∃ Nx : Hp → Prop, (∀ H', Nx H' → ∃ m', m' < m ∧ W (i + 1) m' H') ∧ ∀ x H', (Itt K a).yld i H x H' → g x (wipe σ vs) H' fun σ2 H2 => wipe σ2 vs = wipe σ vs ∧ tt σ2 H2 fun b H3 =>
        if b = true then te σ2 H3 fun y H4 => ∃ acc, H4 C = some (.lst acc) ∧ acc.length < sizeLine ∧ Nx (upd H4 C (.lst (acc ++ [y]))) else Nx H3) := by
  refine lc_tup (xs := ns.map V.int) (fun i H' => Same H H' ∧ H' C = some (.lst ((((ns.take i).filter p).map f).map V.int))) ⟨Same.new n, upd_same⟩ (fun i H' _ e => Same.tup e.1 hs) (fun i x H' hx e => ?_) (fun H' e => ?_)
  · obtain ⟨sm, hC⟩ := e
    obtain ⟨k, gk, rfl⟩ := int_at hx
    refine step k H' _ _ (List.mem_of_getElem? gk) sm (fun hp H4 s4 => ?_) (fun hp H4 s4 => ?_)
    · refine ⟨_, s4 _ _ hC, len_lt ?_, same_trU n (same_tr s4 sm), ?_⟩
      · have l1 := List.length_filter_le p (ns.take i)
        rw [List.length_map, List.length_map]
        rw [List.length_take] at l1
        have l2 : i < ns.length := (List.getElem?_eq_some_iff.mp gk).1
        omega
      · rw [upd_same, List.take_add_one, gk, List.filter_append]
        simp [hp]
    · refine ⟨same_tr s4 sm, ?_⟩
      rw [s4 _ _ hC, List.take_add_one, gk, List.filter_append]
      simp [hp]
  · obtain ⟨sm, hC⟩ := e
    rw [List.length_map, List.take_length] at hC
    exact q H' sm hC
/-- repr(i) -/
def rReprI : List V → Hp → VK → Prop := fun xs H Q => ∃ i, xs = [.int i] ∧ i.natAbs.log2 < 1920 ∧ Q (.str (toString i)) H
theorem call_reprI {X : Cx} : CallR X (.builtin "repr") rReprI := SkE.call_repr_int
theorem st_reprI {H : Hp} {Q : VK} {i : Int} {b : Nat} (h : i.natAbs < 2 ^ b) (h0 : 0 < b) (hb : b ≤ 1900) (q : Q (.str (toString i)) H) : rReprI [.int i] H Q :=
  ⟨i, rfl, Nat.lt_of_lt_of_le (PySem.Flt.log2_lt_of h0 h) (by omega), q⟩
end Mc
/-! exceptions of own classes with a field, over a base class of the program's own -/
namespace Mc
open PySem PySem.Spec PyProof.Rows L2
/-- the j-th statement of a class's body -/
def clsS (s : Stmt) (j : Nat) : Stmt := match s with
  | .ClassDef (body := b) .. => b.getD j (.Pass ⟨0, 0, 0, 0⟩)
  | s => s
/-- the class's record is one of an exception over ValueError -/
def oexB (K : PySem.W.Frag) (C : Addr) : Bool := match K.lookup C with
  | some ⟨.type "type", _, .cls cd, sl⟩ => (match cd.mro, sl.toList with
    | .ref D :: bm, [_, _, _, _, some (.builtin n), _] => decide (D = C) && (decide (n = "ValueError.__new__") && (cd.hasDict && (!cd.hasDel && PySem.HandSPX.refsVE bm)))
    | _, _ => false)
  | _ => false
/-- all that is asked of such a class -/
def excKB (K : PySem.W.Frag) (C : Addr) : Bool :=
  oexB K C && (decide (PySem.W.findIn K (.ref C) "__setattr__" = some (some (.builtin "object.__setattr__"))) && (decide (PySem.W.subIn K (.ref C) (.type "BaseException") = some true) && (decide (PySem.W.typeIn K (.ref C) = some (.type "type")) &&
  (PySem.W.keepIn K (.ref C) && (decide (PySem.W.findIn K (.ref C) "__init__" = some (some (.ref (He.ma K C "__init__")))) && (decide (PySem.W.typeIn K (.ref (He.ma K C "__init__")) = some (.type "function")) &&
  (decide (PySem.W.findIn K (.ref C) "value" = some none) && (xfB K C && (decide (PySem.W.findIn K (.ref C) "__class__" = some (some (.builtin "object.__class__"))) &&
  (decide (PySem.W.specialIn K (.builtin "object.__class__") "__get__" = some (some (.builtin "getset_descriptor.__get__"))) && (decide (PySem.W.takesIn K (.builtin "object.__class__") = some true) && decide (PySem.W.mroIn K C (.type "object") = some true))))))))))))
structure ExcK (K : PySem.W.Frag) (C : Addr) : Prop where
  oex : OexC K C
  iC : PySem.W.findIn K (.ref C) "__init__" = some (some (.ref (He.ma K C "__init__")))
  tI : PySem.W.typeIn K (.ref (He.ma K C "__init__")) = some (.type "function")
  noV : PySem.W.findIn K (.ref C) "value" = some none
  xf : XfC K C
  ha : PySem.W.findIn K (.ref C) "__class__" = some (some (.builtin "object.__class__"))
  hn : PySem.W.specialIn K (.builtin "object.__class__") "__get__" = some (some (.builtin "getset_descriptor.__get__"))
  ht : PySem.W.takesIn K (.builtin "object.__class__") = some true
  hm : PySem.W.mroIn K C (.type "object") = some true
theorem oexB_ok {K : PySem.W.Frag} {C : Addr} (q : oexB K C = true) : ∃ nm q N bs bm sn sub ab col dd k0 k1 k2 k3 k5, K.lookup C = some (excClassObj nm q C N bs bm true sn sub ab col dd k0 k1 k2 k3 k5 "ValueError.__new__") ∧ PySem.HandSPX.refsVE bm = true := by
  unfold oexB at q
  split at q
  · rename_i dd cd sl e
    split at q
    · rename_i D bm k0 k1 k2 k3 n k5 em el
      obtain ⟨q1, q⟩ := He.ba q
      obtain ⟨q2, q⟩ := He.ba q
      obtain ⟨q3, q⟩ := He.ba q
      obtain ⟨q4, q5⟩ := He.ba q
      obtain ⟨nm, bs, mro, ns, qn, hd, sn, sub, ab, col, del⟩ := cd
      simp only at em q3 q4
      obtain rfl : D = C := of_decide_eq_true q1
      obtain rfl : n = "ValueError.__new__" := of_decide_eq_true q2
      subst em
      subst q3
      obtain rfl : del = false := by simpa using q4
      obtain rfl : sl = #[k0, k1, k2, k3, some (.builtin "ValueError.__new__"), k5] := by
        obtain ⟨l⟩ := sl
        exact congrArg Array.mk el
      exact ⟨nm, qn, ns, bs, bm, sn, sub, ab, col, dd, k0, k1, k2, k3, k5, e, q5⟩
    · cases q
  · cases q
theorem excKB_ok {K : PySem.W.Frag} {C : Addr} (q : excKB K C = true) : ExcK K C := by
  obtain ⟨a1, q⟩ := He.ba q
  obtain ⟨a2, q⟩ := He.ba q
  obtain ⟨a3, q⟩ := He.ba q
  obtain ⟨a4, q⟩ := He.ba q
  obtain ⟨a5, q⟩ := He.ba q
  obtain ⟨a6, q⟩ := He.ba q
  obtain ⟨a7, q⟩ := He.ba q
  obtain ⟨a8, q⟩ := He.ba q
  obtain ⟨a9, q⟩ := He.ba q
  obtain ⟨b1, q⟩ := He.ba q
  obtain ⟨b2, q⟩ := He.ba q
  obtain ⟨b3, b4⟩ := He.ba q
  exact ⟨⟨oexB_ok a1, of_decide_eq_true a2, of_decide_eq_true a3, of_decide_eq_true a4, a5⟩, of_decide_eq_true a6, of_decide_eq_true a7, of_decide_eq_true a8, xfB_ok a9, of_decide_eq_true b1, of_decide_eq_true b2, of_decide_eq_true b3, of_decide_eq_true b4⟩
/-- the base class: its __init__ is ValueError's -/
def baseB (K : PySem.W.Frag) (D : Addr) : Bool := PySem.W.readsIn K D (.type "type") && (decide (PySem.W.specialIn K (.ref D) "__getattribute__" = some (some (.builtin "type.__getattribute__"))) &&
  (match PySem.W.findCls K (.ref D) (.type "type") "__init__" with
    | some (.val (.builtin n)) => decide (n = "ValueError.__init__")
    | _ => false))
structure BaseK (K : PySem.W.Frag) (D : Addr) : Prop where
  rd : PySem.W.readsIn K D (.type "type") = true
  ga : PySem.W.specialIn K (.ref D) "__getattribute__" = some (some (.builtin "type.__getattribute__"))
  at_ : PySem.W.findCls K (.ref D) (.type "type") "__init__" = some (.val (.builtin "ValueError.__init__"))
theorem baseB_ok {K : PySem.W.Frag} {D : Addr} (q : baseB K D = true) : BaseK K D := by
  obtain ⟨a1, q⟩ := He.ba q
  obtain ⟨a2, q⟩ := He.ba q
  refine ⟨a1, of_decide_eq_true a2, ?_⟩
  split at q
  · rename_i n e
    rw [e, show n = "ValueError.__init__" from of_decide_eq_true q]
  · cases q
section
variable {X : Cx} {D : Addr} {e : Expr} {es : List Expr} {ta : TA} {p1 p2 pos : Pos} {x : Str}
/-- Base.__init__(self, ..) -/
theorem pe_binit {pl : Sem Bool} (hg : Gl X x) (hm : X.mg x = some (.ref D)) (hb : BaseK X.K D) (ha : PA X (e :: es) ta)
    (hc : eval (.Call (.Attribute (.Name x p1) "__init__" p2) (e :: es) [] pos) X.env = (do
      let ov ← eval (.Name x p1) X.env
      standAt p2.atName
      let (f, first) ← holding [ov] (getMethod ov "__init__" pl)
      callWith pos f first (backTo pos (starEach (e :: es) X.env)) (backToKw pos (keywordEach [] X.env))) := by rfl)
    (hdb : (x == ("__debug__" : Str)) = false := by decide)
    (he : starEach (e :: es) X.env = (false, eval e X.env) :: starEach es X.env := by rfl) (hpl : (backTo pos (starEach es X.env)).any (·.1) = false := by rfl) :
    PE X (.Call (.Attribute (.Name x p1) "__init__" p2) (e :: es) [] pos) (tVeI X.K ta) := by
  refine ⟨fun pins s σ H Q I h => ?_⟩
  refine PySem.W.methodCall_KW (ld_glob I hg hm ?_ hdb) hc
  refine PySem.W.method_cls I.kIn hb.ga (PySem.W.cls_value I.kIn hb.rd hb.at_ (by decide +kernel) ?_)
  show wpAny _ _ (callWith pos (Value.builtin "ValueError.__init__") [] (backTo pos (starEach (e :: es) X.env)) []) _ _ _
  refine PyProof.Rows.callWith_method1 (thn (ha.run pos pins _ σ H _ (I.tok _) h) fun us s1 ⟨vs, H1, I1, r1, q⟩ => ?_) he hpl
  obtain ⟨a, C, ws, rfl, hl, T, ea, q⟩ := q
  match us, r1 with
  | u :: ur, .cons ra rw' =>
    obtain rfl : u = Value.ref a := ra
    refine oinit_ok T I1 ea ?_ fun s' J => ⟨.non, H1, J, rfl, q⟩
    rw [← Paired.length rw', sizeLine_eq]
    omega
end
/-! ### an exception that is held (in a suite: pinned) -/
section
variable {X : Cx} {a : Addr} {cls : Value} {d : Option Addr} {oe : Obj}
/-- isinstance(e, c) -/
def rIsX (K : PySem.W.Frag) (a : Addr) (cls : Value) (d : Option Addr) : List V → Hp → VK → Prop := fun xs H Q => ∃ (C dx : Addr) (fs : List (Str × V)) (c : V) (cv : Value) (b : Bool), xs = [.ref a, c] ∧ cls = .ref C ∧ d = some dx ∧ ExcK K C ∧ H dx = some (.xd fs) ∧
  (∀ u, RelV c u → u = cv) ∧ PySem.W.kitOne K (.ref C) cv = some b ∧ Q (.bl b) H
/-- isinstance(e, (c, ..)) -/
def rIsXT (K : PySem.W.Frag) (a : Addr) (cls : Value) (d : Option Addr) : List V → Hp → VK → Prop := fun xs H Q => ∃ (C dx tp : Addr) (fs : List (Str × V)) (ds : List Addr) (b : Bool), xs = [.ref a, .ref tp] ∧ cls = .ref C ∧ d = some dx ∧ ExcK K C ∧ H dx = some (.xd fs) ∧
  SqT K H tp (ds.map V.ref) ∧ PySem.W.kitAny K (.ref C) (ds.map Value.ref) = some b ∧ Q (.bl b) H
theorem refs_vals : ∀ {ds : List Addr} {us : List Value}, Vals (ds.map V.ref) us → us = ds.map Value.ref
  | [], _, .nil => rfl
  | _ :: ds, _, .cons r t => by
    obtain rfl := r
    rw [refs_vals (ds := ds) t]
    rfl
theorem excK_kit {K : PySem.W.Frag} {C : Addr} {od : Option Obj} (T : ExcK K C) : PySem.W.KitX K (.ref a) (.ref C) (fun h => PySem.W.InstAt h a oe C od) := by
  obtain ⟨nm, q, N, bs, bm, sn, sub, ab, col, dd, k0, k1, k2, k3, k5, hC, _⟩ := T.oex.cls
  refine PySem.W.kitx_exc ?_ T.xf.ga T.xf.gg T.xf.exC T.ha T.hn T.ht T.hm
  unfold PySem.W.clsIn
  rw [hC]
  rfl
theorem excK_at {s : Shared} {pins : List (Addr × Obj)} {σ : L2.St} {H : Hp} {C dx : Addr} {fs : List (Str × V)} (I : Inv X pins σ H s) (hp : (a, oe) ∈ X.pn) (hz : Zc (.ref C) (some dx) oe) (hf : ∃ vs, oe.data = .fields vs) (hx : H dx = some (.xd fs)) :
    ∃ od, PySem.W.InstAt s.heap a oe C (some od) := by
  obtain ⟨ha, _⟩ := I.pin (a, oe) (List.mem_append_left _ hp)
  have ho : ObjOk X.prog X.w H s.heap dx (.xd fs) := I.hok dx _ hx
  obtain ⟨mA, hns, _⟩ := ho
  obtain ⟨od, hd, _⟩ := lookIn_ns hns
  obtain ⟨vs, hv⟩ := hf
  refine ⟨od, ha, hz.1, ?_, ?_⟩
  · unfold PySem.W.notCls
    rw [hv]
  · rw [hz.2]
    exact hd
theorem call_isX (hp : (a, oe) ∈ X.pn) (hz : Zc cls d oe) (hf : ∃ vs, oe.data = .fields vs) : CallR X (.builtin "isinstance") (rIsX X.K a cls d) := by
  intro pins s σ H xs us Q I r h
  obtain ⟨C, dx, fs, c, cv, b, rfl, rfl, rfl, T, hx, hcv, e, q⟩ := h
  match us, r with
  | [u, v], .cons rx (.cons rt .nil) =>
    obtain rfl : u = Value.ref a := rx
    obtain rfl := hcv _ rt
    obtain ⟨od, J⟩ := excK_at I hp hz hf hx
    exact PySem.W.kia_one (excK_kit T) I.kIn J e (fun z => nomatch z) fun tk => ⟨.bl b, H, I.kept (t' := tk) fun _ _ z => z, rfl, q⟩
theorem call_isXT (hp : (a, oe) ∈ X.pn) (hz : Zc cls d oe) (hf : ∃ vs, oe.data = .fields vs) : CallR X (.builtin "isinstance") (rIsXT X.K a cls d) := by
  intro pins s σ H xs us Q I r h
  obtain ⟨C, dx, tp, fs, ds, b, rfl, rfl, rfl, T, hx, ht, e, q⟩ := h
  match us, r with
  | [u, v], .cons rx (.cons rt .nil) =>
    obtain rfl : u = Value.ref a := rx
    obtain rfl : v = Value.ref tp := rt
    obtain ⟨od, J⟩ := excK_at I hp hz hf hx
    obtain ⟨its, rv, ⟨o, ho, hc, n, hd⟩, _⟩ := I.tuple ht
    have ei := refs_vals rv
    subst ei
    obtain ⟨oc, od2, oda, osl⟩ := o
    simp only at hc hd
    subst hc
    subst hd
    exact PySem.W.kia_tup (excK_kit T) I.kIn J ho e (fun z => nomatch z) fun tk => ⟨.bl b, H, I.kept (t' := tk) fun _ _ z => z, rfl, q⟩
/-- e.value -/
def tXv (K : PySem.W.Frag) (a : Addr) (cls : Value) (d : Option Addr) (te : TE) : TE := fun σ H Q => te σ H fun x H1 => x = .ref a ∧ ∃ (C dx : Addr) (v : V), cls = .ref C ∧ d = some dx ∧ ExcK K C ∧ H1 dx = some (.xd [(("value" : Str), v)]) ∧ Q v H1
theorem pe_xv {e : Expr} {te : TE} {pos : Pos} (hp : (a, oe) ∈ X.pn) (hz : Zc cls d oe) (hf : ∃ vs, oe.data = .fields vs) (he : PE X e te) (hb : attributeBase e "value" X.env (eval e X.env) = eval e X.env := by rfl) :
    PE X (.Attribute e "value" pos) (tXv X.K a cls d te) := by
  refine ⟨fun pins s σ H Q I h => ?_⟩
  refine attr_of hb (thn (he.run pins s σ H _ I h) fun u s1 hh => ?_)
  obtain ⟨x, H1, I1, rx, rfl, C, dx, v, rfl, rfl, T, hx, q⟩ := hh
  obtain rfl : u = Value.ref a := rx
  have ho : ObjOk X.prog X.w H1 s1.heap dx (.xd [(("value" : Str), v)]) := I1.hok dx _ hx
  obtain ⟨mA, hns, hr⟩ := ho
  obtain ⟨od, hd, hl⟩ := lookIn_ns hns
  have l : List.lookup ("value" : Str) [(("value" : Str), v)] = some v := by simp [List.lookup]
  obtain ⟨w, hw, rw'⟩ := RelO.some_of (v := v) (o := mA "value") (by rw [← l]; exact hr "value")
  obtain ⟨ha, _⟩ := I1.pin (a, oe) (List.mem_append_left _ hp)
  obtain ⟨vs, hv⟩ := hf
  have J : PySem.W.InstAt s1.heap a oe C (some od) := by
    refine ⟨ha, hz.1, ?_, ?_⟩
    · unfold PySem.W.notCls
      rw [hv]
    · rw [hz.2]
      exact hd
  exact HandSPX.exc_get I1.kIn J T.xf.ga T.xf.gg T.xf.exC (PySem.W.findObj_own T.xf.hdC T.noV rfl (by rw [hl, hw])) (handed_of rw') ⟨v, H1, I1.tok _, rw', q⟩
end
/-! ### their making -/
def sp_einit (K : PySem.W.Frag) (C : Addr) : Sp := fun vs H Q _ => ∃ (a : Addr) (v : V), vs = [.ref a, v] ∧ ExcK K C ∧ H a = some (exo a C none) ∧ ∀ dx, H dx = none → dx ≠ a → Q .non (upd (upd H dx (exd dx [(("value" : Str), v)])) a (exo a C (some dx)))
section
variable {σ : L2.St} {H : Hp} {Q : VK} {K : PySem.W.Frag} {te to : TE} {ta : TA} {nx : L2.St → Hp → Prop} {rt : VK} {bk ct : L2.St → Hp → Prop}
theorem st_veI (h : ta σ H fun vs H1 => ∃ (a C : Addr) (ws : List V), vs = .ref a :: ws ∧ ws.length ≤ 1000 ∧ OexC K C ∧ H1 a = some (exo a C none) ∧ Q .non H1) : tVeI K ta σ H Q := h
theorem st_mko {C : Addr} {sp : Sp} {dvs : List V} {R : XK} (h : ta σ H fun vs H1 => vs.length ≤ 1000 ∧ ∀ a, H1 a = none → sp (.ref a :: (vs ++ dvs)) (upd H1 a (exo a C none))
    (fun v H2 => v = .non ∧ ∃ (d : Addr) (fs : List (Str × V)), H2 a = some (exo a C (some d)) ∧ H2 d = some (exd d fs) ∧ H1 d = none ∧ R (.ref C) (some d) (upd (del H2 a) d (.xd fs))) (fun _ _ _ => False)) : tMkO C sp dvs ta σ H R := h
theorem st_mkE {C : Addr} {R : XK} {x : V} (T : ExcK K C) (q : ∀ dx, H dx = none → R (.ref C) (some dx) (upd H dx (.xd [(("value" : Str), x)]))) :
    [x].length ≤ 1000 ∧ ∀ a, H a = none → sp_einit K C (.ref a :: ([x] ++ [])) (upd H a (exo a C none))
      (fun v H2 => v = .non ∧ ∃ (d : Addr) (fs : List (Str × V)), H2 a = some (exo a C (some d)) ∧ H2 d = some (exd d fs) ∧ H d = none ∧ R (.ref C) (some d) (upd (del H2 a) d (.xd fs))) (fun _ _ _ => False) := by
  refine ⟨(by decide : 1 ≤ 1000), fun a na => ⟨a, x, rfl, T, upd_same, fun dx nd ne => ⟨rfl, dx, [(("value" : Str), x)], upd_same, ?_, ?_, ?_⟩⟩⟩
  · rw [upd_ne ne, upd_same]
  · rw [upd_ne ne] at nd
    exact nd
  · have nd2 : H dx = none := by
      rw [upd_ne ne] at nd
      exact nd
    have e : upd (del (upd (upd (upd H a (exo a C none)) dx (exd dx [(("value" : Str), x)])) a (exo a C (some dx))) a) dx (.xd [(("value" : Str), x)]) = upd H dx (.xd [(("value" : Str), x)]) := by
      funext b
      by_cases hb : b = dx
      · rw [hb, upd_same, upd_same]
      · rw [upd_ne hb, upd_ne hb]
        by_cases ha : b = a
        · rw [ha, del_same, na]
        · rw [del_ne ha, upd_ne ha, upd_ne hb, upd_ne ha]
    rw [e]
    exact q dx nd2
theorem st_ost {f : Str} (h : te σ H fun y H1 => to σ H1 fun x H2 => ∃ a C : Addr, x = .ref a ∧ OexC K C ∧ PySem.W.findIn K (.ref C) f = some none ∧
    ((H2 a = some (exo a C none) ∧ ∀ dx, H2 dx = none → dx ≠ a → nx σ (upd (upd H2 dx (exd dx [(f, y)])) a (exo a C (some dx)))) ∨
      ∃ (dx : Addr) (fs : List (Str × V)), H2 a = some (exo a C (some dx)) ∧ H2 dx = some (exd dx fs) ∧ fs.length ≤ 900 ∧ nx σ (upd H2 dx (exd dx ((f, y) :: fs))))) : tOst K f to te ⟨nx, rt, bk, ct⟩ σ H := h
theorem st_raise {t : L2.St → Hp → XK → Prop} {W : WX} {D : Ends} (h : t σ H fun cls d H' => W cls d σ H') : (fun (_ : Ends) σ H => t σ H fun cls d H' => W cls d σ H') D σ H := h
theorem st_xv {a : Addr} {cls : Value} {d : Option Addr} (h : te σ H fun x H1 => x = .ref a ∧ ∃ (C dx : Addr) (v : V), cls = .ref C ∧ d = some dx ∧ ExcK K C ∧ H1 dx = some (.xd [(("value" : Str), v)]) ∧ Q v H1) : tXv K a cls d te σ H Q := h
theorem st_isX {C a dx : Addr} {fs : List (Str × V)} {c : V} {cv : Value} {b : Bool} (T : ExcK K C) (hx : H dx = some (.xd fs)) (hc : ∀ u, RelV c u → u = cv) (e : PySem.W.kitOne K (.ref C) cv = some b) (q : Q (.bl b) H) : rIsX K a (.ref C) (some dx) [.ref a, c] H Q :=
  ⟨C, dx, fs, c, cv, b, rfl, rfl, rfl, T, hx, hc, e, q⟩
theorem rel_ref {D : Addr} : ∀ u, RelV (.ref D) u → u = Value.ref D := fun _ r => r
theorem rel_ty {n : String} : ∀ u, RelV (.ty n) u → u = Value.type n := fun _ r => r
end
section
variable {σ : L2.St} {H : Hp} {Q : VK} {ta tb : TE}
theorem st_lrg {te : L2.St → Hp → (Int → Int → Hp → Prop) → Prop} (h : te σ H fun a b H1 => RgOk a b ∧ ∀ q, H1 q = none → Q (.ref q) (upd H1 q (.lst (rgV a b)))) : tLstRg te σ H Q := h
theorem st_rg2 {R : Int → Int → Hp → Prop} (h : ta σ H fun x H1 => tb σ H1 fun y H2 => ∃ i j, x = .int i ∧ y = .int j ∧ R i j H2) : tRg2 ta tb σ H R := h
theorem st_rgE {i j : Int} {R : Int → Int → Prop} (h : R i j) : ∃ a b, V.int i = .int a ∧ V.int j = .int b ∧ R a b := ⟨i, j, rfl, rfl, h⟩
end
section
variable {σ : L2.St} {H : Hp} {Q : VK}
theorem st_callS {sp : Sp} {E : L2.St → XK} {t : TA} (h : t σ H fun vs H1 => sp vs H1 Q (E σ)) : tCallS sp E t σ H Q := h
theorem st_extend {p b : Addr} {xs ys : List V} (h : H p = some (.lst xs)) (hb : H b = some (.lst ys)) (hl : xs.length + ys.length < 100000) (q : Q .non (upd H p (.lst (xs ++ ys)))) : rExtend (.ref p) [.ref b] H Q :=
  ⟨p, b, xs, ys, rfl, rfl, h, hb, Nat.le_trans (Nat.le_of_lt hl) (by decide), q⟩
end
/-! ### the head's facts, with the table of statics (class reads look there) -/
def fragB (n : Nat) (g : Addr → Option Obj) : PySem.W.Frag := He.frG g (He.asD g n ++ [cStatics])
abbrev AlB : Type := He.AlD × Bool
def obsB (n : Nat) (fa : List He.Fa) (fn : List He.DefD) (ex : PySem.W.Frag → Bool) (g : Addr → Option Obj) : AlB := (He.obsD fa fn (fragB n g), ex (fragB n g))
structure SaysB (fa : List He.Fa) (fn : List He.DefD) (ex : PySem.W.Frag → Bool) (K : PySem.W.Frag) : Prop where
  d : He.SaysD fa fn K
  more : ex K = true
def hookB (n : Nat) (fa : List He.Fa) (fn : List He.DefD) (ex : PySem.W.Frag → Bool) : PySem.W.Hook where
  α := AlB
  obs := fun s => obsB n fa fn ex s.heap.get?
  val := fun _ => (He.valD fn, true)
  says := fun _ h => ∃ K : PySem.W.Frag, K.In h ∧ SaysB fa fn ex K
  of := fun _ _ e => ⟨_, He.frG_in, congrArg (fun z : AlB => z.1) e, congrArg (fun z : AlB => z.2) e⟩
  keeps := fun _ _ _ h k => h.elim fun K z => ⟨K, PySem.W.Frag.In.keeps z.1 k, z.2⟩
theorem obsB_eq {n : Nat} {fa : List He.Fa} {fn : List He.DefD} {ex : PySem.W.Frag → Bool} {g : Addr → Option Obj} {s : Shared} (h : ∀ a, g a = s.heap.get? a) : obsB n fa fn ex g = (hookB n fa fn ex).obs s := by
  obtain rfl : g = s.heap.get? := funext h
  rfl
end Mc
/-! numbers, lists of steps and dates read from texts -/
namespace Mc
open PySem PySem.Spec PyProof.Rows L2
/-! ### numbers in words -/
def isDig (c : Nat) : Bool := decide (48 ≤ c ∧ c ≤ 57)
def sgF : List Nat → Bool
  | [] => false
  | c :: _ => decide (c = 43) || decide (c = 45)
def cutSg (l : List Nat) : List Nat := if sgF l = true then l.drop 1 else l
def okD (ds : List Nat) : Bool := decide (1 ≤ ds.length) && (decide (ds.length ≤ 60) && ds.all isDig)
def valT (l : List Nat) : Int := if l.head? = some 45 then -((NumText.digitsVal (cutSg l) : Nat) : Int) else ((NumText.digitsVal (cutSg l) : Nat) : Int)
def numT (w : Str) : Option Int := if okD (cutSg w.cps.toList) = true then some (valT w.cps.toList) else none
def numV (o : Option Int) : V := match o with
  | some n => .int n
  | none => .non
theorem okD_all {ds : List Nat} (h : okD ds = true) : NumText.AllDigits ds ∧ ds ≠ [] ∧ ds.length ≤ 60 := by
  obtain ⟨h1, h⟩ := He.ba h
  obtain ⟨h2, h3⟩ := He.ba h
  refine ⟨fun c hc => ?_, fun z => ?_, of_decide_eq_true h2⟩
  · exact of_decide_eq_true (List.all_eq_true.mp h3 c hc)
  · rw [z] at h1
    cases h1
open NumText in
theorem intText_plus {x : Str} {cs : List Nat} (hx : x.cps.toList = 43 :: cs) (h : AllDigits cs) (h1 : cs ≠ []) (h2 : cs.length ≤ 4000) : intText? x = some ((digitsVal cs : Nat) : Int) := by
  have sm : ∀ c ∈ x.cps.toList, 43 ≤ c ∧ c ≤ 57 := fun c hc => by
    rw [hx] at hc
    rcases List.mem_cons.mp hc with e | hc
    · omega
    · have := h c hc
      omega
  have t1 : numTextOf x = x.cps.toList := if_pos (by
    rw [← Array.all_toList, List.all_eq_true]
    exact fun c hc => decide_eq_true (by have := sm c hc; omega))
  have t2 : numSeenOf x = x.cps.toList := by
    show (numTextOf x).takeWhile _ = _
    rw [t1]
    exact takeWhile_all fun c hc => bne_iff_ne.mpr (by have := sm c hc; omega)
  have c0 : core (43 :: cs) = cs := by
    unfold core
    rw [dropWhile_of (by decide)]
    show (cs.reverse.dropWhile blank).reverse = cs
    rw [dropWhile_digits h.reverse, List.reverse_reverse]
  have s0 : sign ((43 :: cs).dropWhile blank) = (false, cs) := by
    rw [dropWhile_of (by decide)]
    rfl
  have z := push_size cs #[]
  have v := push_foldl cs #[]
  unfold intText?
  rw [t1, t2, if_pos (beq_self_eq_true _), hx, c0, s0, digits_of h h1]
  show (if _ ≤ 4300 then some (worth false _) else none) = _
  rw [if_pos (by rw [z]; simp only [Array.size_empty]; omega)]
  unfold worth digitsVal
  rw [v]
  rfl
theorem int_numT {w : Str} (h : okD (cutSg w.cps.toList) = true) : intText? w = some (valT w.cps.toList) := by
  obtain ⟨h1, h2, h3⟩ := okD_all h
  have wl : w.cps.toList.length = w.length := Array.length_toList
  generalize hl : w.cps.toList = l at *
  match l, hl with
  | [], hl => exact absurd rfl h2
  | c :: cs, hl =>
    by_cases e1 : c = 43
    · subst e1
      exact intText_plus hl h1 h2 (by have : (cutSg (43 :: cs)).length = cs.length := rfl; omega)
    · by_cases e2 : c = 45
      · subst e2
        exact intText_neg hl h1 h2 (by have : (cutSg (45 :: cs)).length = cs.length := rfl; rw [List.length_cons] at wl; omega)
      · have e3 : cutSg (c :: cs) = c :: cs := by
          unfold cutSg
          rw [if_neg]
          show ¬ (decide (c = 43) || decide (c = 45)) = true
          rw [decide_eq_false e1, decide_eq_false e2]
          decide
        have e4 : valT (c :: cs) = ((NumText.digitsVal (c :: cs) : Nat) : Int) := by
          unfold valT
          rw [e3, if_neg (by simpa using e2)]
        rw [e3] at h1 h2 h3
        rw [e4, ← hl]
        exact intText_digits (by rw [hl]; exact h1) (by rw [hl]; exact h2) (by omega)
/-! ### the texts of numbers -/
theorem cps_iT (k : Int) : (iT k).cps.toList = if k < 0 then 45 :: TL.numL k.natAbs else TL.numL k.natAbs := by
  cases k with
  | ofNat n =>
    rw [if_neg (show ¬ Int.ofNat n < 0 from Int.not_lt.mpr (Int.natCast_nonneg n))]
    exact TL.tl_num n
  | negSucc m =>
    rw [if_pos (by omega)]
    show (Str.ofString ("-" ++ toString ((m + 1 : Nat) : Int))).cps.toList = _
    rw [signs_ofString, String.toList_append, List.map_append, ← signs_ofString (toString ((m + 1 : Nat) : Int)), show (Str.ofString (toString ((m + 1 : Nat) : Int))).cps.toList = TL.numL (m + 1) from TL.tl_num (m + 1)]
    rfl
theorem cps_stT (k : Int) : (stT k).cps.toList = if 0 < k then 43 :: TL.numL k.natAbs else (iT k).cps.toList := by
  unfold stT
  split
  · rename_i h
    rw [PySem.Str.cps_append, Array.toList_append, cps_iT, if_neg (by omega)]
    rfl
  · rfl
theorem okD_num {k : Int} (h : k.natAbs < 10 ^ 60) : okD (TL.numL k.natAbs) = true := by
  have h1 := TL.numL_len (n := k.natAbs) (k := 60) (by decide) h
  have h2 := TL.numL_ne k.natAbs
  have h3 := TL.numL_digits k.natAbs
  unfold okD
  rw [decide_eq_true (by have := List.length_pos_iff.mpr h2; omega), decide_eq_true h1, Bool.true_and, Bool.true_and]
  exact List.all_eq_true.mpr fun c hc => decide_eq_true (h3 c hc)
theorem sg_num (n : Nat) : sgF (TL.numL n) = false := by
  have h := TL.numL_digits n
  match TL.numL n, h with
  | [], _ => rfl
  | c :: l, h =>
    have := h c (List.mem_cons_self ..)
    show (decide (c = 43) || decide (c = 45)) = false
    rw [decide_eq_false (by omega), decide_eq_false (by omega)]
    rfl
theorem cut_num (n : Nat) : cutSg (TL.numL n) = TL.numL n := by
  unfold cutSg
  rw [sg_num, if_neg Bool.false_ne_true]
theorem val_num (n : Nat) : valT (TL.numL n) = (n : Int) := by
  unfold valT
  rw [cut_num, TL.numL_val, if_neg]
  intro z
  have h := sg_num n
  match TL.numL n, z, h with
  | _ :: l, z, h =>
    cases z
    cases h
theorem numT_iT {k : Int} (h : k.natAbs < 10 ^ 60) : numT (iT k) = some k := by
  unfold numT
  rw [cps_iT]
  by_cases hk : k < 0
  · rw [if_pos hk]
    have e : cutSg (45 :: TL.numL k.natAbs) = TL.numL k.natAbs := rfl
    have v : valT (45 :: TL.numL k.natAbs) = -((NumText.digitsVal (TL.numL k.natAbs) : Nat) : Int) := rfl
    rw [e, okD_num h, if_pos rfl, v, TL.numL_val]
    exact congrArg some (by omega)
  · rw [if_neg hk, cut_num, okD_num h, if_pos rfl, val_num]
    exact congrArg some (by omega)
theorem numT_stT {k : Int} (h : k.natAbs < 10 ^ 60) : numT (stT k) = some k := by
  by_cases hk : 0 < k
  · unfold numT
    rw [cps_stT, if_pos hk]
    have e : cutSg (43 :: TL.numL k.natAbs) = TL.numL k.natAbs := rfl
    have v : valT (43 :: TL.numL k.natAbs) = ((NumText.digitsVal (TL.numL k.natAbs) : Nat) : Int) := rfl
    rw [e, okD_num h, if_pos rfl, v, TL.numL_val]
    exact congrArg some (by omega)
  · have e : stT k = iT k := if_neg hk
    rw [e]
    exact numT_iT h
/-- a sign that no digit is and no sign of a number -/
theorem free_stT {k : Int} {s : Nat} (h : s < 43 ∨ 57 < s) : s ∉ (stT k).cps.toList := by
  have hn : s ∉ TL.numL k.natAbs := TL.numL_free (by omega)
  rw [cps_stT]
  split
  · intro z
    rcases List.mem_cons.mp z with e | z
    · omega
    · exact hn z
  · rw [cps_iT]
    split
    · intro z
      rcases List.mem_cons.mp z with e | z
      · omega
      · exact hn z
    · exact hn
theorem ne_stT (k : Int) : (stT k).cps.toList ≠ [] := by
  have hn := TL.numL_ne k.natAbs
  rw [cps_stT]
  split
  · simp
  · rw [cps_iT]
    split
    · simp
    · exact hn
/-- a row of steps, cut at its spaces -/
theorem split_row {ns : List Int} (h : ns ≠ []) : Txt.split (Txt.join " " (ns.map stT)) " " = ns.map stT :=
  TL.split_join (s := 32) (S := []) (by decide +kernel) (by decide +kernel) (fun z => h (List.map_eq_nil_iff.mp z)) fun p hp => by
    obtain ⟨k, _, rfl⟩ := List.mem_map.mp hp
    exact free_stT (.inl (by decide))
/-- no row of steps is 'none' -/
theorem row_none {ns : List Int} (h : ns ≠ []) : Txt.join " " (ns.map stT) ≠ ("none" : Str) := fun z => by
  have e := split_row h
  rw [z, show Txt.split ("none" : Str) " " = [("none" : Str)] by decide +kernel] at e
  match ns, h, e with
  | k :: ms, _, e =>
    rw [List.map_cons] at e
    have e1 : ("none" : Str) = stT k := (List.cons.inj e).1
    have e2 : (110 : Nat) ∈ (stT k).cps.toList := by
      rw [← e1]
      decide +kernel
    exact free_stT (.inr (by decide)) e2
/-! ### readings -/
theorem cps_tail {z : Str} : (cutS z (some 1) none).cps.toList = z.cps.toList.drop 1 := by
  have e : z.cps.toList.length = z.length := Array.length_toList
  unfold cutS
  rw [show ((1 : Int)) = ((1 : Nat) : Int) from rfl, HT.sIx_nat, HT.sIx_none]
  show (z.cps.toList.drop (min 1 z.length)).take (z.length - min 1 z.length) = _
  rw [← e]
  match z.cps.toList with
  | [] => rfl
  | c :: l =>
    rw [Nat.min_eq_left (by rw [List.length_cons]; omega)]
    exact List.take_of_length_le (by rw [List.length_drop]; exact Nat.le_refl _)
theorem cps_head {z : Str} : (cutS z none (some 1)).cps.toList = z.cps.toList.take 1 := by
  have e : z.cps.toList.length = z.length := Array.length_toList
  unfold cutS
  rw [show ((1 : Int)) = ((1 : Nat) : Int) from rfl, HT.sIx_nat, HT.sIx_none]
  show (z.cps.toList.drop 0).take (min 1 z.length - 0) = _
  rw [← e]
  match z.cps.toList with
  | [] => rfl
  | c :: l =>
    rw [Nat.min_eq_left (by rw [List.length_cons]; omega)]
    rfl
theorem str_eq {a b : Str} (h : a.cps.toList = b.cps.toList) : a = b := by
  obtain ⟨⟨l⟩⟩ := a
  obtain ⟨⟨m⟩⟩ := b
  exact congrArg (fun l => Str.mk ⟨l⟩) h
theorem in_sg {w : Str} : inV (.str (cutS w none (some 1))) [.str "+", .str "-"] = sgF w.cps.toList := by
  have h := cps_head (z := w)
  generalize cutS w none (some 1) = a at h
  have e1 : (a = ("+" : Str)) ↔ w.cps.toList.head? = some 43 := by
    constructor
    · intro e
      rw [e] at h
      have h2 : [43] = w.cps.toList.take 1 := h
      match w.cps.toList, h2 with
      | c :: l, h2 =>
        cases h2
        rfl
    · intro e
      refine str_eq ?_
      rw [h]
      match w.cps.toList, e with
      | c :: l, e =>
        cases e
        rfl
  have e2 : (a = ("-" : Str)) ↔ w.cps.toList.head? = some 45 := by
    constructor
    · intro e
      rw [e] at h
      have h2 : [45] = w.cps.toList.take 1 := h
      match w.cps.toList, h2 with
      | c :: l, h2 =>
        cases h2
        rfl
    · intro e
      refine str_eq ?_
      rw [h]
      match w.cps.toList, e with
      | c :: l, e =>
        cases e
        rfl
  have e3 : sgF w.cps.toList = (decide (w.cps.toList.head? = some 43) || decide (w.cps.toList.head? = some 45)) := by
    match w.cps.toList with
    | [] => rfl
    | c :: l => simp [sgF]
  rw [e3]
  simp only [inV, List.any_cons, List.any_nil, Bool.or_false]
  have key : ∀ (b : Str) (n : Nat), ((a = b) ↔ w.cps.toList.head? = some n) → eqV (.str b) (.str a) = decide (w.cps.toList.head? = some n) := fun b n e => by
    show (b == a) = _
    by_cases c : w.cps.toList.head? = some n
    · rw [e.mpr c, decide_eq_true c]
      exact beq_self_eq_true _
    · rw [decide_eq_false c]
      exact beq_eq_false_iff_ne.mpr fun z => c (e.mp z.symm)
  rw [key _ _ e1, key _ _ e2]
section
variable {X : Cx} {σ : L2.St} {H : Hp} {Q : VK} {K : PySem.W.Frag}
theorem st_slS {z : Str} {lo hi : Option Int} (hz : z.length ≤ 100000) (q : Q (.str (cutS z lo hi)) H) : rSlS (.str z) lo hi H Q := ⟨z, rfl, Nat.le_trans hz (by decide), q⟩
/-- len(text) -/
def rLenTx : List V → Hp → VK → Prop := fun xs H Q => ∃ z, xs = [.str z] ∧ z.length ≤ sizeLine ∧ Q (.int z.length) H
theorem call_lenTx : CallR X (.builtin "len") rLenTx := call_len_str
theorem st_lenTx {z : Str} (hz : z.length ≤ 100000) (q : Q (.int z.length) H) : rLenTx [.str z] H Q := ⟨z, rfl, Nat.le_trans hz (by decide), q⟩
/-- sign in text -/
def rInC : V → V → Hp → VK → Prop := fun x y H Q => ∃ (c : Nat) (z : Str), x = .str ⟨#[c]⟩ ∧ y = .str z ∧ Q (.bl (decide (c ∈ z.cps.toList))) H
theorem op_inC : OpR X (compareOp .In) rInC := op_in_sign
theorem st_inC {c : Nat} {z : Str} (q : Q (.bl (decide (c ∈ z.cps.toList))) H) : rInC (.str ⟨#[c]⟩) (.str z) H Q := ⟨c, z, rfl, rfl, q⟩
/-- int(text) -/
def rIntT : List V → Hp → VK → Prop := fun xs H Q => ∃ a n, xs = [.str a] ∧ PySem.intText? a = some n ∧ a.length ≤ 640 ∧ Q (.int n) H
theorem call_intT : CallR X (.type "int") rIntT := call_int_str
theorem st_intT {w : Str} (h : okD (cutSg w.cps.toList) = true) (q : Q (.int (valT w.cps.toList)) H) : rIntT [.str w] H Q := by
  refine ⟨w, _, rfl, int_numT h, ?_, q⟩
  obtain ⟨_, _, h3⟩ := okD_all h
  have e : w.cps.toList.length = w.length := Array.length_toList
  have e2 : w.cps.toList.length ≤ (cutSg w.cps.toList).length + 1 := by
    unfold cutSg
    split
    · rw [List.length_drop]
      omega
    · omega
  omega
theorem st_itS {te : TE} {R : It → Hp → Prop} (h : te σ H fun v H1 => ∃ x, v = .str x ∧ R (Its x) H1) : iStr te σ H R := h
theorem st_itS1 {x : Str} {R : Str → Prop} (h : R x) : ∃ y, V.str x = .str y ∧ R y := ⟨x, rfl, h⟩
/-- [f(sign) for sign in text if p(sign)] -/
theorem lcS {D : Addr} {x : Str} {g : TG} {tt : TT} {te : TE} {vs : List Nat} {Qd : Hp → Prop} (p : Nat → Bool) (f : Nat → V) (n : H D = none) (hl : x.length ≤ 100000)
    (step : ∀ (c : Nat) (H' : Hp) (R : VK) (RF : Hp → Prop), c ∈ x.cps.toList → Same H H' → (p c = true → ∀ H4, Same H' H4 → R (f c) H4) → (p c = false → ∀ H4, Same H' H4 → RF H4) →
      g (.str ⟨#[c]⟩) (wipe σ vs) H' fun σ2 H2 => wipe σ2 vs = wipe σ vs ∧ tt σ2 H2 fun b H3 => if b = true then te σ2 H3 R else RF H3)
    (q : ∀ H', Same H H' → H' D = some (.lst ((x.cps.toList.filter p).map f)) → Qd H') :
    ∃ W : Nat → Nat → Hp → Prop, (∃ m, W 0 m (upd H D (.lst []))) ∧ ∀ i m H, W i m H →
      ((Its x).stop i H ∧ Qd H) ∨ ((Its x).go i H ∧ ∃ Nx : Hp → Prop, (∀ H', Nx H' → ∃ m', m' < m ∧ W (i + 1) m' H') ∧ ∀ y H', (Its x).yld i H y H' → g y (wipe σ vs) H' fun σ2 H2 => wipe σ2 vs = wipe σ vs ∧ tt σ2 H2 fun b H3 =>
        if b = true then te σ2 H3 fun y H4 => ∃ acc, H4 D = some (.lst acc) ∧ acc.length < sizeLine ∧ Nx (upd H4 D (.lst (acc ++ [y]))) else Nx H3) := by
  have xl : x.cps.toList.length = x.cps.size := Array.length_toList
  have xs : x.cps.size = x.length := rfl
  refine ⟨fun i m H' => m = x.cps.size - i ∧ i ≤ x.cps.size ∧ Same H H' ∧ H' D = some (.lst (((x.cps.toList.take i).filter p).map f)), ⟨_, rfl, Nat.zero_le _, Same.new n, upd_same⟩, ?_⟩
  rintro i m H1 ⟨rfl, hi, sm, hD⟩
  by_cases c : i < x.cps.size
  · refine .inr ⟨c, fun H' => Same H H' ∧ H' D = some (.lst (((x.cps.toList.take (i + 1)).filter p).map f)), fun H' h => ⟨_, Nat.sub_succ_lt_self _ _ c, rfl, c, h⟩, ?_⟩
    rintro y H' ⟨rfl, k, hk, rfl⟩
    have gk : x.cps.toList[i]? = some k := by rw [Array.getElem?_toList]; exact hk
    refine step k H' _ _ (List.mem_of_getElem? gk) sm (fun hp H4 s4 => ?_) (fun hp H4 s4 => ?_)
    · refine ⟨_, s4 _ _ hD, len_lt ?_, same_trU n (same_tr s4 sm), ?_⟩
      · have l1 := List.length_filter_le p (x.cps.toList.take i)
        rw [List.length_map]
        rw [List.length_take] at l1
        omega
      · rw [upd_same, List.take_add_one, gk, List.filter_append]
        simp [hp]
    · refine ⟨same_tr s4 sm, ?_⟩
      rw [s4 _ _ hD, List.take_add_one, gk, List.filter_append]
      simp [hp]
  · obtain rfl : i = x.cps.size := by omega
    refine .inl ⟨Nat.le_refl _, q H1 sm ?_⟩
    rw [hD, List.take_of_length_le (by omega)]
theorem st_all {a : Addr} {bs : List Bool} (h : SqL K H a (bs.map V.bl)) (q : Q (.bl (bs.all id)) H) : rAll K [.ref a] H Q := ⟨a, bs, rfl, h, q⟩
theorem dig_in (c : Nat) : decide (c ∈ ("0123456789" : Str).cps.toList) = isDig c := by
  have e : ("0123456789" : Str).cps.toList = [48, 49, 50, 51, 52, 53, 54, 55, 56, 57] := by decide +kernel
  rw [e]
  unfold isDig
  by_cases h : 48 ≤ c ∧ c ≤ 57
  · rw [decide_eq_true h]
    refine decide_eq_true ?_
    simp only [List.mem_cons, List.not_mem_nil, or_false]
    omega
  · rw [decide_eq_false h]
    refine decide_eq_false ?_
    simp only [List.mem_cons, List.not_mem_nil, or_false]
    omega
end
theorem joinL_len (s : List Nat) : ∀ ps : List (List Nat), (TL.joinL s ps).length ≤ (ps.map (·.length)).sum + ps.length * s.length
  | [] => by simp [TL.joinL]
  | [p] => by simp [TL.joinL]
  | p :: z :: r => by
    have ih := joinL_len s (z :: r)
    show (p ++ (s ++ TL.joinL s (z :: r))).length ≤ _
    rw [List.length_append, List.length_append, List.map_cons, List.sum_cons, List.length_cons, Nat.succ_mul]
    omega
theorem join_len (y : Str) (ps : List Str) : (Txt.join y ps).length ≤ (ps.map (·.length)).sum + ps.length * y.length := by
  have h := joinL_len (TL.tl y) (ps.map TL.tl)
  rw [← TL.tl_join, List.map_map, List.length_map] at h
  rw [TL.join_eq]
  exact h
theorem row_len {ns : List Int} (h : ∀ k ∈ ns, k.natAbs < 2 ^ 200) : (rowT ns).length ≤ 203 * ns.length + 4 := by
  unfold rowT
  split
  · exact Nat.le_add_left _ _
  · have a := row_fits h
    have b := join_len " " (ns.map stT)
    rw [List.length_map, show (Str.ofString " ").length = 1 from rfl] at b
    omega
theorem in_non : ∀ ns : List Int, inV .non (ns.map V.int) = false
  | [] => rfl
  | n :: ns => by
    have h := in_non ns
    simp only [inV] at h ⊢
    rw [List.map_cons, List.any_cons, h]
    rfl
section
variable {σ : L2.St} {H : Hp} {Q : VK} {to te : TE}
theorem st_m1 {r : V → List V → Hp → VK → Prop} (h : to σ H fun x H1 => (∃ a, x = .str a) ∧ te σ H1 fun y H2 => r x [y] H2 Q) : tM1 r to te σ H Q := h
theorem st_split {a b : Str} (hb : (b.length == 0) = false) (hl : a.length ≤ 10000000) (q : ∀ p, H p = none → Q (.ref p) (upd H p (.lst ((Txt.split a b).map V.str)))) :
    ∃ x y, V.str a = .str x ∧ [V.str b] = [.str y] ∧ (y.length == 0) = false ∧ x.length + 2 ≤ sizeLine ∧ rNewStrs (Txt.split x y) H Q := ⟨a, b, rfl, rfl, hb, Nat.le_trans (Nat.add_le_add_right hl 2) (by decide), q⟩
end
theorem big_60 {k : Int} (h : k.natAbs < 10 ^ 60) : k.natAbs < 2 ^ 200 := Nat.lt_of_lt_of_le h (by decide)
theorem un65 {k : Nat} {A : Around} (hr : Room k A) : A.units + 65 < cLine := by
  have z := hr.un
  omega
end Mc
/-! {f(k) for k in xs if p(k)}, f(k) an int -/
namespace Mc
open PySem PySem.Spec PyProof.Rows L2 PpSet
section
variable {X : Cx}
theorem noX {α : Type} {t : Sem α} {Q Q' : α → Shared → Prop} {M : Model} {A : Around} {E : Value → Shared → Prop} {s : Shared} (h : wpAny M A t Q (fun _ _ => False) s) (f : ∀ a s, Q a s → Q' a s) : wpAny M A t Q' E s :=
  wpAny_mono h f fun _ _ z => z.elim
/-- what a turn of the block does with its value: it goes into the set at D -/
def intoS (w : World) (D : Addr) (Nx : Hp → Prop) : VK := fun y H => ∃ (k : Int) (S : Int → Bool) (n : Nat), y = .int k ∧ H D = some (SetO w D S n) ∧ n + 1 < scanBound ∧ Nx (upd H D (SetO w D (fun j => S j || decide (j = k)) (if S k = true then n else n + 1)))
/-- a turn -/
def turnS (w : World) (D : Addr) (σ : L2.St) (vs : List Nat) (g : TG) (tt : TT) (te : TE) (x : V) (H : Hp) (Nx : Hp → Prop) : Prop :=
  g x (wipe σ vs) H fun σ2 H2 => wipe σ2 vs = wipe σ vs ∧ tt σ2 H2 fun b H3 => if b = true then te σ2 H3 (intoS w D Nx) else Nx H3
def tScI (w : World) (wi : TI) (g : TG) (tt : TT) (te : TE) (vs : List Nat) : TE := fun σ H Q => wi σ H fun J H1 => ∀ D, H1 D = none →
  ∃ W : Nat → Nat → Hp → Prop, (∃ m, W 0 m (upd H1 D (SetO w D (fun _ => false) 0))) ∧ ∀ i m H, W i m H → (J.stop i H ∧ Q (.ref D) H) ∨ (J.go i H ∧ ∃ Nx : Hp → Prop, (∀ H', Nx H' → ∃ m', m' < m ∧ W (i + 1) m' H') ∧ ∀ x H', J.yld i H x H' → turnS w D σ vs g tt te x H' Nx)
theorem sc_loop {s3 s4 : Shared} {σ : L2.St} {H3 : Hp} {elt tg iter : Expr} {ifs : List Expr} {scope : Scope} {vs : List Nat} {pos : Pos} {g : TG} {tt : TT} {te : TE} {ce : Env} {fp : List Addr} {it D : Addr} {tn : Nat → Heap → Prop} {J : It}
    {R : Result → Shared → Prop} {Done : Hp → Prop} {W : Nat → Nat → Hp → Prop} {m0 : Nat}
    (hc : X.calm = true) (T : Turn X.prog X.w X.K tg J fp it tn) (pg : PG (X.blk s3 H3 scope ce fp) tg g) (pt : PTs (X.blk s3 H3 scope ce fp) ifs tt) (pe : PE (X.blk s3 H3 scope ce fp) elt te)
    (I4 : Inv (X.blk s3 H3 scope ce fp) [] (wipe σ vs) H3 s4) (t4 : tn 0 s4.heap) (n4 : ∀ b ∈ fp, H3 b = none) (w0 : W 0 m0 H3)
    (turn : ∀ i m H, W i m H → (J.stop i H ∧ Done H) ∨ (J.go i H ∧ ∃ Nx : Hp → Prop, (∀ H', Nx H' → ∃ m', m' < m ∧ W (i + 1) m' H') ∧ ∀ x H', J.yld i H x H' → turnS X.w D σ vs g tt te x H' Nx))
    (fin : ∀ s' H', Inv (X.blk s3 H3 scope ce fp) [] (wipe σ vs) H' s' → Done H' → R (.ok .next) s') :
    codeAny (model X.prog X.w) X.A (.compLoop (.SetComp elt [⟨tg, iter, ifs, 0⟩] scope pos) 0 (.ref it) (.ref D) ce) R s4 := by
  have okF : ∀ {σ' : L2.St} {H' : Hp} {s' : Shared} {pl : List (Addr × Obj)}, Inv (X.blk s3 H3 scope ce fp) pl σ' H' s' → (∀ b ∈ fp, H' b = none) → ∀ b ∈ fp, FpOk (X.blk s3 H3 scope ce fp) [] H' b := fun {σ' H' s' pl} Z n b hb =>
    ⟨n b hb, (Z.ok.exf b hb).1, Z.ok.exfs b hb, .inl hb, (Z.ok.exf b hb).2, fun p hp => by cases (show p ∈ ([] : List (Addr × Obj)) from hp)⟩
  refine compLoopS_any (fun n s' => ∃ i H', Inv (X.blk s3 H3 scope ce fp) [] (wipe σ vs) H' s' ∧ tn i s'.heap ∧ (∀ b ∈ fp, H' b = none) ∧ W i n H') (fun n s5 ⟨i, H5, I5, t5, n5, w5⟩ => ?_) m0 ⟨0, H3, I4, t4, n4, w0⟩
  rcases turn i n H5 w5 with ⟨stop, d⟩ | ⟨go, Nx, hN, step⟩
  · refine noX (T.done (X.blk s3 H3 scope ce fp) rfl rfl rfl hc i [] s5 _ H5 (fun _ _ => False) I5 (okF I5 n5) t5 stop) fun r s6 ⟨er, I6⟩ => ?_
    subst er
    exact fin s6 H5 I6 d
  · refine noX (T.item (X.blk s3 H3 scope ce fp) rfl rfl rfl hc i [] s5 _ H5 (fun _ _ => False) I5 (okF I5 n5) t5 go) fun r s6 ⟨u, er, h6⟩ => ?_
    subst er
    refine noX h6 fun _ s7 ⟨x, H7, I7, r7, y7, t7, n7⟩ => ?_
    refine noX (pg.run _ s7 _ H7 x u _ (I7.pinned (okF I7 n7) (T.obj _ _ t7)) r7 (step x H7 y7)) fun _ s8 ⟨σ8, H8, I8, ew, q8⟩ => ?_
    refine noX (pt.run _ s8 σ8 H8 _ I8 q8) fun b s9 ⟨H9, I9, q9⟩ => ?_
    have again : ∀ s' H', Inv (X.blk s3 H3 scope ce fp) ([] ++ pinsAt fp s7.heap) σ8 H' s' → Nx H' → ∃ m, m < n ∧ ∃ i H', Inv (X.blk s3 H3 scope ce fp) [] (wipe σ vs) H' s' ∧ tn i s'.heap ∧ (∀ b ∈ fp, H' b = none) ∧ W i m H' := fun s' H' Z nx => by
      obtain ⟨m', lt, w'⟩ := hN H' nx
      have held : ∀ b ∈ fp, ∀ o, s7.heap.get? b = some o → s'.heap.get? b = some o ∧ H' b = none := fun b hb o e =>
        have P := Z.pin (b, o) (List.mem_append_right _ (List.mem_append_right _ (mem_pinsAt hb e)))
        ⟨P.1, P.2.1⟩
      refine ⟨m', lt, i + 1, H', (Z.unpinned (pins := [])).weak (by rw [← ew, wipe_length]) (fun j v e => (wipe_some (by rw [ew]; exact e)).1), T.keep _ _ _ t7 fun b hb o e => (held b hb o e).1, fun b hb => ?_, w'⟩
      obtain ⟨o, e, _⟩ := T.obj _ _ t7 b hb
      exact (held b hb o e).2
    cases b with
    | false => exact again s9 H9 I9 q9
    | true =>
      refine noX (pe.run _ s9 σ8 H9 _ I9 q9) fun z s10 ⟨yv, H10, I10, r10, k, S0, n0, ey, eD, lt, nx⟩ => ?_
      subst ey
      obtain ⟨tk, rfl⟩ := r10
      refine setR_add (setO_get (X := X.blk s3 H3 scope ce fp) I10 eD) lt fun h' sb new => again _ _ (I10.write (e := D) (t' := s10.toks + 1) (by rw [eD]; trivial) (.inl rfl) (fun b u ne hu => (sb.2 b ne).trans hu) ?_ (setO_new new)) nx
      obtain ⟨o, _, _, _, ho, _⟩ := new
      exact ⟨o, ho⟩
theorem pe_scI {elt tg iter : Expr} {ifs : List Expr} {scope : Scope} {own : List (Str × Nat)} {pos : Pos} {wi : TI} {g : TG} {tt : TT} {te : TE} (hc : X.calm = true) (hN : X.N.Nodup) (hi : PI X tg iter wi) (ok : BlkOk X.N X.env.scope scope own)
    (hg : ∀ (s : Shared) (H : Hp) (C : Addr) (cl : List (Str × Addr)) (fp : List Addr), PG (X.blk s H scope (compEnvC scope cl C X.env) fp) tg g) (ht : ∀ (s : Shared) (H : Hp) (C : Addr) (cl : List (Str × Addr)) (fp : List Addr), PTs (X.blk s H scope (compEnvC scope cl C X.env) fp) ifs tt)
    (he : ∀ (s : Shared) (H : Hp) (C : Addr) (cl : List (Str × Addr)) (fp : List Addr), PE (X.blk s H scope (compEnvC scope cl C X.env) fp) elt te) (hs : ∀ x, foldedSetIterable iter X.env x = pure x := by intro _; rfl) :
    PE X (.SetComp elt [⟨tg, iter, ifs, 0⟩] scope pos) (tScI X.w wi g tt te (own.map (·.2))) := by
  constructor
  intro pins s σ H Q I h
  have cells : ∀ x ∈ scope.names, x.2 = .free → ∃ c, X.env.cells.lookup x.1 = some c := fun x hx e => I.ok.has _ (ok.free x hx e)
  rw [eval_SetComp]
  apply wpAny_comprehension_free rfl hs (closure_ok cells) ok.kind (fun x hx e => by rw [ok.uniq x hx, e])
  refine thn (hi.run pins s σ H _ I h) fun _ s1 h1 => thn h1 fun _ s2 h2 => ?_
  obtain ⟨it, fp, tn, J, H2, rfl, I2, T, t2, f2, q⟩ := h2
  have freeD : H2 s2.heap.objs.size = none := I2.hok.fresh (Nat.le_refl _)
  obtain ⟨W, ⟨m0, w0⟩, turn⟩ := q _ freeD
  refine newSet_ok (newEnv_comp ?_)
  generalize eD : s2.heap.objs.size = D at *
  generalize eo : ({ cls := .type "set", dict := none, data := .set #[] 0 (.fresh 0 0 (!X.w.params.followText "set-order")) } : Obj) = o0 at *
  have kD : ∀ b o, s2.heap.get? b = some o → (s2.heap.push o0).get? b = some o := fun b o e => Heap.get?_push_of_some _ e
  have fresh : SetR X.w (s2.heap.push o0) D (fun _ => false) 0 := by
    rw [← eo, ← eD]
    exact setR_fresh X.w
  have I3 : Inv X pins σ (upd H2 D (SetO X.w D (fun _ => false) 0)) { s2 with heap := s2.heap.push o0 } :=
    I2.laid (t' := s2.toks) kD (Nat.le_of_eq eD) (setO_new fresh)
  have lt : ∀ b ∈ fp, b < s2.heap.objs.size := fun b hb => by
    obtain ⟨o, e, _⟩ := T.obj _ _ t2 b hb
    exact Heap.lt_size e
  have f3 : ∀ b ∈ fp, FpOk X pins (upd H2 D (SetO X.w D (fun _ => false) 0)) b := fun b hb => ⟨by rw [upd_ne (Nat.ne_of_lt (by rw [← eD]; exact lt b hb))]; exact (f2 b hb).1, (f2 b hb).2⟩
  have t3 := T.keep _ _ _ t2 fun b _ o e => kD b o e
  have l3 : ∀ b ∈ fp, b < (s2.heap.push o0).objs.size := fun b hb => by
    rw [Heap.size_push]
    exact Nat.lt_succ_of_lt (lt b hb)
  generalize upd H2 D (SetO X.w D (fun _ => false) 0) = H3 at *
  generalize e3 : ({ s2 with heap := s2.heap.push o0 } : Shared) = s3 at *
  have h3 : s3.heap = s2.heap.push o0 := by rw [← e3]
  rw [← h3] at t3 l3
  have I4 := block_start I3 ok hN fun b hb => ⟨f3 b hb, l3 b hb⟩
  have k4 : ∀ b o, s3.heap.get? b = some o → (pushCells (s3.heap.push { cls := .type "dict", data := .dict #[] }) scope.names).get? b = some o := fun b o e => pushCells_keeps _ _ _ _ (Heap.get?_push_of_some _ e)
  have t4 := T.keep _ _ _ t3 fun b _ o e => k4 b o e
  have loop : codeAny (model X.prog X.w) X.A (.compLoop (.SetComp elt [⟨tg, iter, ifs, 0⟩] scope pos) 0 (.ref it) (.ref D) (compEnvC scope (cellsFrom (s3.heap.objs.size + 1) scope.names (cloFrom X.env.cells scope.names [])) s3.heap.objs.size X.env))
      (compPost (model X.prog X.w) X.A X.xe none (EP X pins σ Q) (.ref D) s3.heap.objs.size) { s3 with heap := pushCells (s3.heap.push { cls := .type "dict", data := .dict #[] }) scope.names } := by
    refine sc_loop hc T (hg _ _ _ _ _) (ht _ _ _ _ _) (he _ _ _ _ _) I4 t4 (fun b hb => (f3 b hb).1) w0 turn fun s6 H6 I6 q6 => ?_
    have I7 : Inv X pins σ H6 s6 := I3.call' (ch := fp) I6.os I6.base I6.hok I6.bare fun b hb => ⟨(f3 b hb).2.2.2.1, (f3 b hb).2.1, (f3 b hb).2.2.2.2.1, (f3 b hb).2.2.2.2.2⟩
    obtain ⟨m, ns, _⟩ := I6.loc
    have F := I3.fpOk (H' := H6) (Nat.le_refl _) I6.free
    exact ⟨m, ns, fun h9 sb9 => ⟨.ref D, H6, I7.turned (t' := s6.toks) (fun b o n e => (sb9.2 b n).trans e) F.1 F.2.1 F.2.2.2.1 F.2.2.2.2.1 F.2.2.2.2.2, rfl, q6⟩⟩
  exact codeAny_compStart_set loop (T.self X.A 0 _ _ _ t4 loop)
end
/-- {f(k) for k in xs}, xs a list of ints -/
theorem scFM {w : World} {K : PySem.W.Frag} {a D : Addr} {ns : List Int} {g : TG} {te : TE} {vs : List Nat} {σ : L2.St} {H : Hp} {Qd : Hp → Prop} (f : Int → Int) (hs : SqL K H a (ns.map V.int)) (n : H D = none) (hl : ns.length ≤ 4000)
    (step : ∀ (k : Int) (H' : Hp) (R : VK) (RF : Hp → Prop), k ∈ ns → Same H H' → (∀ H4, Same H' H4 → R (.int (f k)) H4) → g (.int k) (wipe σ vs) H' fun σ2 H2 => wipe σ2 vs = wipe σ vs ∧ tYes σ2 H2 fun b H3 => if b = true then te σ2 H3 R else RF H3)
    (q : ∀ H' c, Same H H' → H' D = some (SetO w D (fun j => decide (j ∈ ns.map f)) c) → Qd H') :
    ∃ W : Nat → Nat → Hp → Prop, (∃ m, W 0 m (upd H D (SetO w D (fun _ => false) 0))) ∧ ∀ i m H, W i m H → ((Itl K a).stop i H ∧ Qd H) ∨ ((Itl K a).go i H ∧ ∃ Nx : Hp → Prop, (∀ H', Nx H' → ∃ m', m' < m ∧ W (i + 1) m' H') ∧ ∀ x H', (Itl K a).yld i H x H' → turnS w D σ vs g tYes te x H' Nx) := by
  refine ⟨fun i m H' => m = ns.length - i ∧ i ≤ ns.length ∧ Same H H' ∧ ∃ c, c ≤ i ∧ H' D = some (SetO w D (fun j => decide (j ∈ (ns.take i).map f)) c), ⟨_, rfl, Nat.zero_le _, Same.new n, 0, Nat.le_refl _, upd_same⟩, ?_⟩
  rintro i m H1 ⟨rfl, hi, sm, c, hc, hD⟩
  have hs1 := sm.seq hs
  by_cases lt : i < ns.length
  · refine .inr ⟨⟨_, .int ns[i], hs1, by rw [List.getElem?_map, List.getElem?_eq_getElem lt]; rfl⟩, fun H' => Same H H' ∧ ∃ c, c ≤ i + 1 ∧ H' D = some (SetO w D (fun j => decide (j ∈ (ns.take (i + 1)).map f)) c), fun H' z => ⟨_, Nat.sub_succ_lt_self _ _ lt, rfl, lt, z⟩, ?_⟩
    rintro x H' ⟨rfl, hx⟩
    have ex := hx _ hs1
    rw [List.getElem?_map, List.getElem?_eq_getElem lt] at ex
    cases ex
    have key : ∀ H4, Same H' H4 → intoS w D (fun H' => Same H H' ∧ ∃ c, c ≤ i + 1 ∧ H' D = some (SetO w D (fun j => decide (j ∈ (ns.take (i + 1)).map f)) c)) (.int (f ns[i])) H4 := fun H4 s4 => by
      refine ⟨_, _, c, rfl, s4 _ _ hD, by unfold scanBound; omega, same_trU n (same_tr s4 sm), (if decide (f ns[i] ∈ (ns.take i).map f) = true then c else c + 1), ?_, ?_⟩
      · split <;> omega
      · rw [upd_same]
        congr 2
        funext j
        rw [List.take_add_one, List.getElem?_eq_getElem lt, List.map_append, Bool.eq_iff_iff]
        simp
    exact step ns[i] H' _ _ (List.getElem_mem lt) sm key
  · obtain rfl : i = ns.length := by omega
    rw [List.take_length] at hD
    exact .inl ⟨⟨_, hs1, by rw [List.length_map]; exact Nat.le_refl _⟩, q H1 c sm hD⟩
end Mc
/-! normal forms: the years of a distance by classes, and by the years that they leave -/
namespace Mc
/-! ### the program's years -/
def rg25 : List Int := (List.range 25).map Int.ofNat
def rg400 : List Int := (List.range 400).map Int.ofNat
def nMem (qs : List Int) (g : Int) : List Int := qs.filter fun q => decide (q % 25 = g)
def nCho (r g : Int) (m : List Int) : List Int := if m.length < 2 then m.map fun q => r + 4 * q else [g, g + 25].map fun q => r + 4 * q
def nFo (r : Int) (qs : List Int) : List Int := rg25.flatMap fun g => nCho r g (nMem qs g)
def nY (r : Int) (ys : List Int) : List Int :=
  if ys.all (fun y => decide (y % 4 = r)) = true then (if (nFo r (srt (ys.map fun y => y / 4 % 100))).length < 50 then nFo r (srt (ys.map fun y => y / 4 % 100)) else [0, 1]) else [0, 1]
/-! ### the law's -/
def lp (n : Int) : Bool := decide (n % 4 = 0) && (!decide (n % 100 = 0) || decide (n % 400 = 0))
def lft (os : List Int) : List Int := rg400.filter fun y => os.all fun o => lp (y + o)
def lHere (left : List Int) (b g : Int) : List Int := left.filter fun y => decide ((y + b) / 4 % 25 = (0 - g) % 25)
def lCho (b g : Int) (here : List Int) : List Int := if here = [] then [b + 4 * g, b + 4 * (g + 25)] else if here.length = 1 then [b + 4 * ((0 - (here.headD 0 + b) / 4) % 100)] else []
def lFo (b : Int) (left : List Int) : List Int := rg25.flatMap fun g => lCho b g (lHere left b g)
def lY (left : List Int) : List Int := if left = [] then [0, 1] else lFo ((0 - left.headD 0) % 4) left
theorem mem_rg25 {g : Int} : g ∈ rg25 ↔ 0 ≤ g ∧ g < 25 := by
  unfold rg25
  rw [List.mem_map]
  constructor
  · rintro ⟨n, hn, rfl⟩
    have := List.mem_range.mp hn
    show (0 : Int) ≤ (n : Int) ∧ (n : Int) < 25
    omega
  · rintro ⟨h0, h1⟩
    exact ⟨g.toNat, List.mem_range.mpr (by omega), Int.toNat_of_nonneg h0⟩
theorem mem_rg400 {g : Int} : g ∈ rg400 ↔ 0 ≤ g ∧ g < 400 := by
  unfold rg400
  rw [List.mem_map]
  constructor
  · rintro ⟨n, hn, rfl⟩
    have := List.mem_range.mp hn
    show (0 : Int) ≤ (n : Int) ∧ (n : Int) < 400
    omega
  · rintro ⟨h0, h1⟩
    exact ⟨g.toNat, List.mem_range.mpr (by omega), Int.toNat_of_nonneg h0⟩
/-- the years of a class, if one visit at most decides -/
def hr0 (r g : Int) : List Int := rg400.filter fun y => decide ((y + r) % 4 = 0) && decide ((y + r) / 4 % 25 = (0 - g) % 25)
def hr1 (r q : Int) : List Int := rg400.filter fun y => decide ((y + r) % 4 = 0) && (decide ((y + r) / 4 % 25 = (0 - q % 25) % 25) && decide (((y + r) / 4 + q) % 100 = 0))
def rgN (n : Nat) : List Int := (List.range n).map Int.ofNat
theorem mem_rgN {n : Nat} {g : Int} : g ∈ rgN n ↔ 0 ≤ g ∧ g < n := by
  unfold rgN
  rw [List.mem_map]
  constructor
  · rintro ⟨k, hk, rfl⟩
    have := List.mem_range.mp hk
    show (0 : Int) ≤ (k : Int) ∧ (k : Int) < n
    omega
  · rintro ⟨h0, h1⟩
    exact ⟨g.toNat, List.mem_range.mpr (by omega), Int.toNat_of_nonneg h0⟩
theorem all_hr0 : ((rgN 4).all fun r => (rgN 25).all fun g => decide ((hr0 r g).length = 4)) = true := by decide +kernel
theorem all_hr1 : ((rgN 4).all fun r => (rgN 100).all fun q => decide ((hr1 r q).length = 1 ∧ (0 - ((hr1 r q).headD 0 + r) / 4) % 100 = q)) = true := by decide +kernel
theorem hr0_len {r g : Int} (r0 : 0 ≤ r) (r1 : r < 4) (g0 : 0 ≤ g) (g1 : g < 25) : (hr0 r g).length = 4 :=
  of_decide_eq_true (List.all_eq_true.mp (List.all_eq_true.mp all_hr0 r (mem_rgN.mpr ⟨r0, r1⟩)) g (mem_rgN.mpr ⟨g0, g1⟩))
theorem hr1_one {r q : Int} (r0 : 0 ≤ r) (r1 : r < 4) (q0 : 0 ≤ q) (q1 : q < 100) : (hr1 r q).length = 1 ∧ (0 - ((hr1 r q).headD 0 + r) / 4) % 100 = q :=
  of_decide_eq_true (List.all_eq_true.mp (List.all_eq_true.mp all_hr1 r (mem_rgN.mpr ⟨r0, r1⟩)) q (mem_rgN.mpr ⟨q0, q1⟩))
theorem lp_mod {y o : Int} {r : Int} (ho : o % 4 = r) : lp (y + o % 400) = true ↔ ((y + r) % 4 = 0 ∧ ((((y + r) / 4 + o / 4 % 100) % 25 ≠ 0) ∨ ((y + r) / 4 + o / 4 % 100) % 100 = 0)) := by
  unfold lp
  simp only [Bool.and_eq_true, Bool.or_eq_true, Bool.not_eq_true', decide_eq_true_eq, decide_eq_false_iff_not]
  omega
/-- the years that are left: of one remainder modulo 4, and as each visit wants it -/
def lft2 (r : Int) (qs : List Int) : List Int := rg400.filter fun y => decide ((y + r) % 4 = 0) && qs.all fun q => !decide (((y + r) / 4 + q) % 25 = 0) || decide (((y + r) / 4 + q) % 100 = 0)
theorem lft_eq {r : Int} {ys os : List Int} (hn : ys ≠ []) (ho : ∀ k, k ∈ os ↔ ∃ y ∈ ys, k = y % 400) (ha : ∀ y ∈ ys, y % 4 = r) : lft os = lft2 r (srt (ys.map fun y => y / 4 % 100)) := by
  unfold lft lft2
  refine List.filter_congr fun y _ => ?_
  rw [Bool.eq_iff_iff, List.all_eq_true, Bool.and_eq_true, List.all_eq_true, decide_eq_true_eq]
  constructor
  · intro h
    have one : ∀ z ∈ ys, _ := fun z hz => (lp_mod (y := y) (ha z hz)).mp (h _ ((ho _).mpr ⟨z, hz, rfl⟩))
    obtain ⟨z0, hz0⟩ := List.exists_mem_of_ne_nil ys hn
    refine ⟨(one z0 hz0).1, fun q hq => ?_⟩
    obtain ⟨z, hz, rfl⟩ := List.mem_map.mp (mem_srt.mp hq)
    rw [Bool.or_eq_true, Bool.not_eq_true', decide_eq_false_iff_not, decide_eq_true_eq]
    exact (one z hz).2
  · rintro ⟨h1, h2⟩ o hoo
    obtain ⟨z, hz, rfl⟩ := (ho o).mp hoo
    refine (lp_mod (ha z hz)).mpr ⟨h1, ?_⟩
    have := h2 _ (mem_srt.mpr (List.mem_map_of_mem (f := fun y => y / 4 % 100) hz))
    rw [Bool.or_eq_true, Bool.not_eq_true', decide_eq_false_iff_not, decide_eq_true_eq] at this
    exact this
theorem lft_none {r : Int} {ys os : List Int} {y0 y1 : Int} (ho : ∀ k, k ∈ os ↔ ∃ y ∈ ys, k = y % 400) (h0 : y0 ∈ ys) (h1 : y1 ∈ ys) (hr : y0 % 4 = r) (hne : y1 % 4 ≠ r) : lft os = [] := by
  refine List.eq_nil_iff_forall_not_mem.mpr fun y hy => ?_
  obtain ⟨_, h⟩ := List.mem_filter.mp hy
  rw [List.all_eq_true] at h
  have a := (lp_mod hr).mp (h _ ((ho _).mpr ⟨y0, h0, rfl⟩))
  have b := (lp_mod (r := y1 % 4) rfl).mp (h _ ((ho _).mpr ⟨y1, h1, rfl⟩))
  have a1 := a.1
  have b1 := b.1
  omega
/-- a class of the years that are left -/
theorem here_eq {r g : Int} {qs : List Int} (g0 : 0 ≤ g) (g1 : g < 25) (hq : ∀ q ∈ qs, 0 ≤ q ∧ q < 100) :
    lHere (lft2 r qs) r g = rg400.filter fun y => (decide ((y + r) % 4 = 0) && decide ((y + r) / 4 % 25 = (0 - g) % 25)) && (nMem qs g).all fun q => decide (((y + r) / 4 + q) % 100 = 0) := by
  unfold lHere lft2 nMem
  rw [List.filter_filter]
  refine List.filter_congr fun y _ => ?_
  rw [Bool.eq_iff_iff]
  simp only [Bool.and_eq_true, List.all_eq_true, Bool.or_eq_true, Bool.not_eq_true', decide_eq_true_eq, decide_eq_false_iff_not, List.mem_filter]
  constructor
  · rintro ⟨h1, h2, h3⟩
    refine ⟨⟨h2, h1⟩, fun q ⟨hm, he⟩ => ?_⟩
    have := h3 q hm
    omega
  · rintro ⟨⟨h2, h1⟩, h3⟩
    refine ⟨h1, h2, fun q hm => ?_⟩
    by_cases he : q % 25 = g
    · exact .inr (h3 q ⟨hm, he⟩)
    · have := hq q hm
      exact .inl (by omega)
theorem two_of {l : List Int} (h : 2 ≤ l.length) (hp : l.Pairwise (· < ·)) : ∃ a b, a ∈ l ∧ b ∈ l ∧ a < b := by
  match l, h, hp with
  | a :: b :: r, _, hp => exact ⟨a, b, by simp, by simp, (List.pairwise_cons.mp hp).1 b (by simp)⟩
theorem cho_eq {r g : Int} {qs : List Int} (r0 : 0 ≤ r) (r1 : r < 4) (g0 : 0 ≤ g) (g1 : g < 25) (hq : ∀ q ∈ qs, 0 ≤ q ∧ q < 100) (hs : qs.Pairwise (· < ·)) :
    nCho r g (nMem qs g) = lCho r g (lHere (lft2 r qs) r g) ∧ (lHere (lft2 r qs) r g ≠ [] → (nMem qs g).length < 2) := by
  rw [here_eq g0 g1 hq]
  have hm : ∀ q ∈ nMem qs g, 0 ≤ q ∧ q < 100 ∧ q % 25 = g := fun q h => by
    obtain ⟨a, b⟩ := List.mem_filter.mp h
    exact ⟨(hq q a).1, (hq q a).2, of_decide_eq_true b⟩
  have hp : (nMem qs g).Pairwise (· < ·) := hs.filter _
  generalize nMem qs g = M at *
  match M, hm, hp with
  | [], _, _ =>
    have e : (rg400.filter fun y => (decide ((y + r) % 4 = 0) && decide ((y + r) / 4 % 25 = (0 - g) % 25)) && ([] : List Int).all fun q => decide (((y + r) / 4 + q) % 100 = 0)) = hr0 r g := by
      refine List.filter_congr fun y _ => ?_
      rw [List.all_nil, Bool.and_true]
    rw [e]
    have l := hr0_len r0 r1 g0 g1
    refine ⟨?_, fun _ => by decide⟩
    unfold nCho lCho
    rw [if_pos (by decide), if_neg (fun z => by rw [z] at l; cases l), if_neg (by omega)]
    rfl
  | [q], hm, _ =>
    obtain ⟨q0, q1, qg⟩ := hm q (by simp)
    have e : (rg400.filter fun y => (decide ((y + r) % 4 = 0) && decide ((y + r) / 4 % 25 = (0 - g) % 25)) && [q].all fun q => decide (((y + r) / 4 + q) % 100 = 0)) = hr1 r q := by
      unfold hr1
      refine List.filter_congr fun y _ => ?_
      rw [List.all_cons, List.all_nil, Bool.and_true, qg, Bool.and_assoc]
    rw [e]
    obtain ⟨l1, l2⟩ := hr1_one r0 r1 q0 q1
    refine ⟨?_, fun _ => by simp⟩
    unfold nCho lCho
    rw [if_pos (by simp), if_neg (fun z => by rw [z] at l1; cases l1), if_pos l1, l2]
    rfl
  | a :: b :: rest, hm, hp =>
    have e : (rg400.filter fun y => (decide ((y + r) % 4 = 0) && decide ((y + r) / 4 % 25 = (0 - g) % 25)) && (a :: b :: rest).all fun q => decide (((y + r) / 4 + q) % 100 = 0)) = [] := by
      refine List.eq_nil_iff_forall_not_mem.mpr fun y hy => ?_
      obtain ⟨_, h⟩ := List.mem_filter.mp hy
      rw [Bool.and_eq_true, List.all_eq_true] at h
      have ha := of_decide_eq_true (h.2 a (by simp))
      have hb := of_decide_eq_true (h.2 b (by simp))
      have a1 := hm a (by simp)
      have b1 := hm b (by simp)
      have ab := (List.pairwise_cons.mp hp).1 b (by simp)
      omega
    rw [e]
    refine ⟨?_, fun z => absurd rfl z⟩
    unfold nCho lCho
    rw [if_neg (by simp), if_pos rfl]
    rfl
theorem nCho_le (r g : Int) (m : List Int) : (nCho r g m).length ≤ 2 := by
  unfold nCho
  split
  · rw [List.length_map]
    omega
  · exact Nat.le_refl 2
theorem flat_le {f : Int → List Int} : ∀ {l : List Int}, (∀ g ∈ l, (f g).length ≤ 2) → (l.flatMap f).length ≤ 2 * l.length
  | [], _ => by simp
  | x :: l, h => by
    have a := h x (List.mem_cons_self ..)
    have b := flat_le (f := f) (l := l) fun g hg => h g (List.mem_cons_of_mem _ hg)
    rw [List.flatMap_cons, List.length_append, List.length_cons]
    omega
theorem flat_lt {f : Int → List Int} {g0 : Int} : ∀ {l : List Int}, (∀ g ∈ l, (f g).length ≤ 2) → g0 ∈ l → (f g0).length < 2 → (l.flatMap f).length < 2 * l.length
  | x :: l, h, hm, h1 => by
    have a := h x (List.mem_cons_self ..)
    rw [List.flatMap_cons, List.length_append, List.length_cons]
    rcases List.mem_cons.mp hm with rfl | hm
    · have b := flat_le (f := f) (l := l) fun g hg => h g (List.mem_cons_of_mem _ hg)
      omega
    · have b := flat_lt (f := f) (l := l) (fun g hg => h g (List.mem_cons_of_mem _ hg)) hm h1
      omega
theorem flat_all {f : Int → List Int} : ∀ {l : List Int}, (∀ g ∈ l, (f g).length = 2) → (l.flatMap f).length = 2 * l.length
  | [], _ => by simp
  | x :: l, h => by
    have a := h x (List.mem_cons_self ..)
    have b := flat_all (f := f) (l := l) fun g hg => h g (List.mem_cons_of_mem _ hg)
    rw [List.flatMap_cons, List.length_append, List.length_cons]
    omega
theorem flat_congr {f f' : Int → List Int} : ∀ {l : List Int}, (∀ g ∈ l, f g = f' g) → l.flatMap f = l.flatMap f'
  | [], _ => rfl
  | x :: l, h => by
    rw [List.flatMap_cons, List.flatMap_cons, h x (List.mem_cons_self ..), flat_congr fun g hg => h g (List.mem_cons_of_mem _ hg)]
/-- the years of a normal form are those that the years left tell -/
theorem nY_eq {r : Int} {ys os : List Int} (hr : ∃ y ∈ ys, y % 4 = r) (ho : ∀ k, k ∈ os ↔ ∃ y ∈ ys, k = y % 400) : nY r ys = lY (lft os) := by
  obtain ⟨y0, hy0, hr⟩ := hr
  unfold nY
  by_cases ha : ys.all (fun y => decide (y % 4 = r)) = true
  · rw [if_pos ha]
    have ha2 : ∀ y ∈ ys, y % 4 = r := fun y hy => of_decide_eq_true (List.all_eq_true.mp ha y hy)
    have hq : ∀ q ∈ srt (ys.map fun y => y / 4 % 100), 0 ≤ q ∧ q < 100 := fun q h => by
      obtain ⟨y, _, rfl⟩ := List.mem_map.mp (mem_srt.mp h)
      show 0 ≤ y / 4 % 100 ∧ y / 4 % 100 < 100
      omega
    have hs := pw_srt (ys.map fun y => y / 4 % 100)
    rw [lft_eq (fun z => by rw [z] at hy0; cases hy0) ho ha2]
    generalize srt (ys.map fun y => y / 4 % 100) = qs at *
    have r0 : 0 ≤ r := by omega
    have r1 : r < 4 := by omega
    have ce := fun g (hg : g ∈ rg25) => cho_eq (r := r) (g := g) (qs := qs) r0 r1 (mem_rg25.mp hg).1 (mem_rg25.mp hg).2 hq hs
    have l25 : rg25.length = 25 := rfl
    unfold lY
    by_cases hl : lft2 r qs = []
    · rw [if_pos hl]
      have e : (nFo r qs).length = 50 := by
        unfold nFo
        have := flat_all (f := fun g => nCho r g (nMem qs g)) (l := rg25) fun g hg => by
          show (nCho r g (nMem qs g)).length = 2
          rw [(ce g hg).1, hl]
          rfl
        rw [this, l25]
      rw [if_neg (by omega)]
    · rw [if_neg hl]
      obtain ⟨y, t, hy⟩ : ∃ y t, lft2 r qs = y :: t := by
        match lft2 r qs, hl with
        | y :: t, _ => exact ⟨y, t, rfl⟩
      have hm : y ∈ lft2 r qs := by rw [hy]; exact List.mem_cons_self ..
      have hyr : (y + r) % 4 = 0 := by
        obtain ⟨_, h⟩ := List.mem_filter.mp hm
        rw [Bool.and_eq_true] at h
        exact of_decide_eq_true h.1
      have hb : (0 - (lft2 r qs).headD 0) % 4 = r := by
        rw [hy]
        show (0 - y) % 4 = r
        omega
      rw [hb]
      have hg : (0 - (y + r) / 4) % 25 ∈ rg25 := mem_rg25.mpr (by omega)
      have hne : lHere (lft2 r qs) r ((0 - (y + r) / 4) % 25) ≠ [] := fun z => by
        have : y ∈ lHere (lft2 r qs) r ((0 - (y + r) / 4) % 25) := List.mem_filter.mpr ⟨hm, decide_eq_true (by omega)⟩
        rw [z] at this
        cases this
      have e : (nFo r qs).length < 50 := by
        unfold nFo
        have := flat_lt (f := fun g => nCho r g (nMem qs g)) (l := rg25) (fun g _ => nCho_le r g _) hg (by
          have z := (ce _ hg).2 hne
          show (nCho r _ (nMem qs _)).length < 2
          unfold nCho
          rw [if_pos z, List.length_map]
          exact z)
        rw [l25] at this
        exact this
      rw [if_pos e]
      exact flat_congr fun g hg => (ce g hg).1
  · rw [if_neg ha]
    have : ∃ y1 ∈ ys, y1 % 4 ≠ r := Classical.byContradiction fun z => ha (List.all_eq_true.mpr fun y hy => decide_eq_true (Classical.byContradiction fun c => z ⟨y, hy, c⟩))
    obtain ⟨y1, hy1, hne⟩ := this
    rw [lft_none ho hy0 hy1 hr hne]
    rfl
end Mc
/-! normal forms: visits by their distances; the two ways together -/
namespace Mc
/-! ### ascending, equal numbers as often as they are there -/
def insD (x : Int) : List Int → List Int
  | [] => [x]
  | y :: l => if x ≤ y then x :: y :: l else y :: insD x l
def srtD : List Int → List Int
  | [] => []
  | x :: l => insD x (srtD l)
theorem insD_perm (x : Int) : ∀ l : List Int, (insD x l).Perm (x :: l)
  | [] => .refl _
  | y :: l => by
    unfold insD
    split
    · exact .refl _
    · exact ((insD_perm x l).cons y).trans (.swap x y l)
theorem srtD_perm : ∀ l : List Int, (srtD l).Perm l
  | [] => .refl _
  | x :: l => (insD_perm x (srtD l)).trans ((srtD_perm l).cons x)
theorem insD_pw {x : Int} : ∀ {l : List Int}, l.Pairwise (· ≤ ·) → (insD x l).Pairwise (· ≤ ·)
  | [], _ => by
    unfold insD
    simp
  | y :: l, h => by
    obtain ⟨h1, h2⟩ := List.pairwise_cons.mp h
    unfold insD
    split
    · rename_i c
      refine List.pairwise_cons.mpr ⟨fun z hz => ?_, h⟩
      rcases List.mem_cons.mp hz with rfl | hz
      · exact c
      · exact Int.le_trans c (h1 z hz)
    · rename_i c
      refine List.pairwise_cons.mpr ⟨fun z hz => ?_, insD_pw h2⟩
      rcases List.mem_cons.mp ((insD_perm x l).mem_iff.mp hz) with rfl | hz
      · omega
      · exact h1 z hz
theorem srtD_pw : ∀ l : List Int, (srtD l).Pairwise (· ≤ ·)
  | [] => .nil
  | x :: l => insD_pw (srtD_pw l)
theorem srtD_of {m l : List Int} (p : m.Perm l) (h : m.Pairwise (· ≤ ·)) : m = srtD l :=
  List.Perm.eq_of_pairwise (fun a b _ _ h1 h2 => Int.le_antisymm h1 h2) h (srtD_pw l) (p.trans (srtD_perm l).symm)
theorem srtD_congr {l m : List Int} (p : l.Perm m) : srtD l = srtD m := srtD_of ((srtD_perm l).trans p) (srtD_pw l)
theorem srtD_len (l : List Int) : (srtD l).length = l.length := (srtD_perm l).length_eq
theorem mem_srtD {k : Int} {l : List Int} : k ∈ srtD l ↔ k ∈ l := (srtD_perm l).mem_iff
/-! ### the years of a distance -/
def yrs (sums : List Int) (r : Int) : List Int := (sums.filter fun n => decide (n % 12 = r)).map fun n => n / 12
theorem yrs_snoc (p : List Int) (n r : Int) : yrs (p ++ [n]) r = if n % 12 = r then yrs p r ++ [n / 12] else yrs p r := by
  unfold yrs
  rw [List.filter_append]
  by_cases h : n % 12 = r
  · simp [h]
  · simp [h]
theorem yrs_none {p : List Int} {r : Int} (h : ∀ n ∈ p, n % 12 ≠ r) : yrs p r = [] := by
  unfold yrs
  rw [List.filter_eq_nil_iff.mpr fun n hn z => h n hn (of_decide_eq_true z)]
  rfl
theorem yrs_some {p : List Int} {r n : Int} (h : n ∈ p) (e : n % 12 = r) : yrs p r ≠ [] := fun z => by
  have : n / 12 ∈ yrs p r := List.mem_map.mpr ⟨n, List.mem_filter.mpr ⟨h, decide_eq_true e⟩, rfl⟩
  rw [z] at this
  cases this
/-! ### a dict of lists, as pairs -/
def gPut (gs : List (Int × List Int)) (r : Int) (ys : List Int) : List (Int × List Int) := if (gs.any fun g => decide (g.1 = r)) = true then gs.map fun g => if g.1 = r then (g.1, ys) else g else gs ++ [(r, ys)]
/-- the groups of the visits p -/
structure Grp (gs : List (Int × List Int)) (p : List Int) : Prop where
  nd : (gs.map (·.1)).Nodup
  is : ∀ g ∈ gs, 0 ≤ g.1 ∧ g.1 < 12 ∧ g.2 = yrs p g.1 ∧ g.2 ≠ []
  all : ∀ n ∈ p, ∃ g ∈ gs, g.1 = n % 12
theorem Grp.nil : Grp [] [] := ⟨.nil, fun g h => (by cases h), fun n h => (by cases h)⟩
theorem Grp.none {gs : List (Int × List Int)} {p : List Int} {r : Int} (G : Grp gs p) (h : ∀ g ∈ gs, g.1 ≠ r) : yrs p r = [] := yrs_none fun n hn e => by
  obtain ⟨g, hg, e2⟩ := G.all n hn
  exact h g hg (e2.trans e)
theorem Grp.put {gs : List (Int × List Int)} {p : List Int} (G : Grp gs p) (n : Int) : Grp (gPut gs (n % 12) (yrs p (n % 12) ++ [n / 12])) (p ++ [n]) := by
  have nn : yrs (p ++ [n]) (n % 12) = yrs p (n % 12) ++ [n / 12] := by rw [yrs_snoc, if_pos rfl]
  unfold gPut
  by_cases h : (gs.any fun g => decide (g.1 = n % 12)) = true
  · rw [if_pos h]
    have keys : (gs.map fun g => if g.1 = n % 12 then (g.1, yrs p (n % 12) ++ [n / 12]) else g).map (·.1) = gs.map (·.1) := by
      rw [List.map_map]
      refine List.map_congr_left fun g _ => ?_
      show (if g.1 = n % 12 then (g.1, yrs p (n % 12) ++ [n / 12]) else g).1 = g.1
      split <;> rfl
    refine ⟨by rw [keys]; exact G.nd, fun g hg => ?_, fun k hk => ?_⟩
    · obtain ⟨g0, h0, rfl⟩ := List.mem_map.mp hg
      obtain ⟨a, b, c, d⟩ := G.is g0 h0
      split
      · rename_i e
        refine ⟨a, b, ?_, by simp⟩
        show _ = yrs (p ++ [n]) g0.1
        rw [e, nn]
      · rename_i e
        refine ⟨a, b, ?_, d⟩
        rw [yrs_snoc, if_neg (fun z => e z.symm)]
        exact c
    · rcases List.mem_append.mp hk with hk | hk
      · obtain ⟨g, hg, e⟩ := G.all k hk
        refine ⟨_, List.mem_map_of_mem (f := fun g => if g.1 = n % 12 then (g.1, yrs p (n % 12) ++ [n / 12]) else g) hg, ?_⟩
        show (if g.1 = n % 12 then (g.1, yrs p (n % 12) ++ [n / 12]) else g).1 = k % 12
        split
        · exact e
        · exact e
      · rw [List.mem_singleton.mp hk]
        obtain ⟨g, hg, e⟩ := List.any_eq_true.mp h
        refine ⟨_, List.mem_map_of_mem (f := fun g => if g.1 = n % 12 then (g.1, yrs p (n % 12) ++ [n / 12]) else g) hg, ?_⟩
        show (if g.1 = n % 12 then (g.1, yrs p (n % 12) ++ [n / 12]) else g).1 = n % 12
        rw [if_pos (of_decide_eq_true e)]
        exact of_decide_eq_true e
  · rw [if_neg h]
    have hne : ∀ g ∈ gs, g.1 ≠ n % 12 := fun g hg e => h (List.any_eq_true.mpr ⟨g, hg, decide_eq_true e⟩)
    refine ⟨?_, fun g hg => ?_, fun k hk => ?_⟩
    · rw [List.map_append, List.map_cons, List.map_nil]
      refine List.nodup_append.mpr ⟨G.nd, by simp, fun a ha b hb => ?_⟩
      obtain ⟨g, hg, rfl⟩ := List.mem_map.mp ha
      rw [List.mem_singleton.mp hb]
      exact hne g hg
    · rcases List.mem_append.mp hg with hg | hg
      · obtain ⟨a, b, c, d⟩ := G.is g hg
        refine ⟨a, b, ?_, d⟩
        rw [yrs_snoc, if_neg (fun z => hne g hg z.symm)]
        exact c
      · rw [List.mem_singleton.mp hg]
        refine ⟨?_, ?_, nn.symm, by simp⟩
        · show 0 ≤ n % 12
          omega
        · show n % 12 < 12
          omega
    · rcases List.mem_append.mp hk with hk | hk
      · obtain ⟨g, hg, e⟩ := G.all k hk
        exact ⟨g, List.mem_append_left _ hg, e⟩
      · rw [List.mem_singleton.mp hk]
        exact ⟨_, List.mem_append_right _ (List.mem_singleton_self _), rfl⟩
/-! ### both normal forms -/
def nfG (r : Int) (ys : List Int) : List Int := (nY (ys.headD 0 % 4) ys).map fun y => 12 * y + r
/-- the program's visits, group by group -/
def nfP (gs : List (Int × List Int)) : List Int := gs.flatMap fun g => nfG g.1 g.2
/-- the law's, distance by distance -/
def lftR (sums : List Int) (r : Int) : List Int := lft (srt ((yrs sums r).map fun y => y % 400))
def nfR (sums : List Int) (r : Int) : List Int := if yrs sums r = [] then [] else (lY (lftR sums r)).map fun y => 12 * y + r
def nfL (sums : List Int) : List Int := (rgN 12).flatMap (nfR sums)
theorem nfG_eq {sums : List Int} {r : Int} (h : yrs sums r ≠ []) : nfG r (yrs sums r) = (lY (lftR sums r)).map fun y => 12 * y + r := by
  unfold nfG lftR
  rw [nY_eq (os := srt ((yrs sums r).map fun y => y % 400)) ?_ fun k => ?_]
  · match yrs sums r, h with
    | y :: t, _ => exact ⟨y, List.mem_cons_self .., rfl⟩
  · rw [mem_srt, List.mem_map]
    constructor
    · rintro ⟨y, hy, rfl⟩
      exact ⟨y, hy, rfl⟩
    · rintro ⟨y, hy, rfl⟩
      exact ⟨y, hy, rfl⟩
theorem nf_perm {gs : List (Int × List Int)} {p : List Int} (G : Grp gs p) : (nfP gs).Perm (nfL p) := by
  have e1 : nfP gs = (gs.map (·.1)).flatMap (nfR p) := by
    unfold nfP
    rw [List.flatMap_map]
    have : ∀ l : List (Int × List Int), (∀ g ∈ l, g.2 = yrs p g.1 ∧ g.2 ≠ []) → (l.flatMap fun g => nfG g.1 g.2) = l.flatMap fun g => nfR p g.1 := fun l => by
      induction l with
      | nil => intro _; rfl
      | cons g l ih =>
        intro h
        obtain ⟨c, d⟩ := h g (List.mem_cons_self ..)
        rw [List.flatMap_cons, List.flatMap_cons, ih fun x hx => h x (List.mem_cons_of_mem _ hx)]
        rw [c] at d
        have e : nfR p g.1 = nfG g.1 g.2 := by
          unfold nfR
          rw [if_neg d, c, nfG_eq d]
        rw [e]
    exact this gs fun g hg => ⟨(G.is g hg).2.2.1, (G.is g hg).2.2.2⟩
  have e2 : nfL p = ((rgN 12).filter fun r => decide (yrs p r ≠ [])).flatMap (nfR p) := by
    unfold nfL
    have : ∀ l : List Int, l.flatMap (nfR p) = (l.filter fun r => decide (yrs p r ≠ [])).flatMap (nfR p) := fun l => by
      induction l with
      | nil => rfl
      | cons r l ih =>
        rw [List.flatMap_cons, List.filter_cons, ih]
        by_cases h : yrs p r = []
        · rw [if_neg (by simp [h])]
          have : nfR p r = [] := by
            unfold nfR
            rw [if_pos h]
          rw [this, List.nil_append]
        · rw [if_pos (by simp [h]), List.flatMap_cons]
    exact this _
  rw [e1, e2]
  refine List.Perm.flatMap_right _ ((List.perm_ext_iff_of_nodup G.nd ?_).mpr fun r => ?_)
  · exact List.Pairwise.filter _ (by decide)
  · rw [List.mem_map, List.mem_filter, mem_rgN]
    constructor
    · rintro ⟨g, hg, rfl⟩
      obtain ⟨a, b, c, d⟩ := G.is g hg
      exact ⟨⟨a, b⟩, decide_eq_true (by rw [← c]; exact d)⟩
    · rintro ⟨⟨a, b⟩, h⟩
      have h2 : yrs p r ≠ [] := of_decide_eq_true h
      refine Classical.byContradiction fun z => h2 (G.none fun g hg e => z ⟨g, hg, e⟩)
/-- the visits of a list's normal form -/
def nfS (ns : List Int) : List Int := srtD (nfL (srt (sms ns)))
theorem nf_srt {gs : List (Int × List Int)} {ns m : List Int} (G : Grp gs (srt (sms ns))) (hp : m.Perm (nfP gs)) (hs : m.Pairwise (· ≤ ·)) : m = nfS ns := srtD_of (hp.trans (nf_perm G)) hs
/-! ### how many -/
theorem lY_le {left : List Int} : (lY left).length ≤ 50 := by
  unfold lY
  split
  · decide
  · unfold lFo
    refine flat_le (l := rg25) fun g _ => ?_
    unfold lCho
    split
    · exact Nat.le_refl 2
    · split
      · exact Nat.le_succ 1
      · exact Nat.zero_le 2
theorem lY_bd {left : List Int} {y : Int} (h : y ∈ lY left) : 0 ≤ y ∧ y < 400 := by
  unfold lY at h
  split at h
  · simp only [List.mem_cons, List.not_mem_nil, or_false] at h
    omega
  · unfold lFo at h
    obtain ⟨g, hg, hy⟩ := List.mem_flatMap.mp h
    have := mem_rg25.mp hg
    unfold lCho at hy
    split at hy
    · simp only [List.mem_cons, List.not_mem_nil, or_false] at hy
      omega
    · split at hy
      · simp only [List.mem_cons, List.not_mem_nil, or_false] at hy
        omega
      · cases hy
theorem nfL_bd {sums : List Int} {k : Int} (h : k ∈ nfL sums) : 0 ≤ k ∧ k < 4812 := by
  obtain ⟨r, hr, hk⟩ := List.mem_flatMap.mp h
  have := mem_rgN.mp hr
  unfold nfR at hk
  split at hk
  · cases hk
  · obtain ⟨y, hy, rfl⟩ := List.mem_map.mp hk
    have := lY_bd hy
    show 0 ≤ 12 * y + r ∧ 12 * y + r < 4812
    omega
theorem flat_le2 {f : Int → List Int} {b : Nat} : ∀ {l : List Int}, (∀ g ∈ l, (f g).length ≤ b) → (l.flatMap f).length ≤ b * l.length
  | [], _ => by simp
  | x :: l, h => by
    have a := h x (List.mem_cons_self ..)
    have c := flat_le2 (f := f) (l := l) fun g hg => h g (List.mem_cons_of_mem _ hg)
    rw [List.flatMap_cons, List.length_append, List.length_cons, Nat.mul_succ]
    omega
theorem nfL_le {sums : List Int} : (nfL sums).length ≤ 600 := by
  have := flat_le2 (f := nfR sums) (b := 50) (l := rgN 12) fun r _ => by
    unfold nfR
    split
    · exact Nat.zero_le _
    · rw [List.length_map]
      exact lY_le
  exact this
theorem nfS_le {ns : List Int} : (nfS ns).length ≤ 600 := by
  unfold nfS
  rw [srtD_len]
  exact nfL_le
theorem nfS_bd {ns : List Int} {k : Int} (h : k ∈ nfS ns) : 0 ≤ k ∧ k < 4812 := nfL_bd (mem_srtD.mp h)
end Mc
/-! dicts from numbers to lists of numbers; their items walked -/
namespace Mc
open PySem PySem.Spec PyProof.Rows L2
/-- a dict that bears lists of numbers -/
inductive DG (H : Hp) : List (Key × V) → List (Int × List Int) → Prop
  | nil : DG H [] []
  | cons {a : Addr} {k : Int} {ys : List Int} {es : List (Key × V)} {gs : List (Int × List Int)} : H a = some (.lst (ys.map V.int)) → DG H es gs → DG H ((.inl k, .ref a) :: es) ((k, ys) :: gs)
theorem DG.same {H H' : Hp} {es : List (Key × V)} {gs : List (Int × List Int)} (h : DG H es gs) (s : Same H H') : DG H' es gs := by
  induction h with
  | nil => exact .nil
  | cons e _ ih => exact .cons (s _ _ e) ih
theorem DG.len {H : Hp} {es : List (Key × V)} {gs : List (Int × List Int)} (h : DG H es gs) : es.length = gs.length := by
  induction h with
  | nil => rfl
  | cons _ _ ih => rw [List.length_cons, List.length_cons, ih]
theorem DG.at {H : Hp} {es : List (Key × V)} {gs : List (Int × List Int)} (h : DG H es gs) {i : Nat} {k : Key} {v : V} (e : es[i]? = some (k, v)) : ∃ g a, gs[i]? = some g ∧ k = .inl g.1 ∧ v = .ref a ∧ H a = some (.lst (g.2.map V.int)) := by
  induction h generalizing i with
  | nil => cases e
  | cons hl _ ih =>
    match i, e with
    | 0, e =>
      cases e
      exact ⟨_, _, rfl, rfl, rfl, hl⟩
    | i + 1, e => exact ih e
/-- other things change -/
theorem DG.off {H H' : Hp} {es : List (Key × V)} {gs : List (Int × List Int)} (h : DG H es gs) (s : ∀ a xs, H a = some (.lst xs) → H' a = some (.lst xs)) : DG H' es gs := by
  induction h with
  | nil => exact .nil
  | cons e _ ih => exact .cons (s _ _ e) ih
theorem inl_ne {j k : Int} (h : j ≠ k) : ¬ (Sum.inl j : Key) = .inl k := fun z => h (Sum.inl.inj z)
theorem DG.val {H : Hp} {es : List (Key × V)} {gs : List (Int × List Int)} (h : DG H es gs) (k : Int) :
    (valV es (.inl k) = none ∧ ∀ g ∈ gs, g.1 ≠ k) ∨ ∃ a g, valV es (.inl k) = some (.ref a) ∧ g ∈ gs ∧ g.1 = k ∧ H a = some (.lst (g.2.map V.int)) := by
  induction h with
  | nil => exact .inl ⟨rfl, fun g hg => (by cases hg)⟩
  | @cons a j ys es gs e _ ih =>
    by_cases c : j = k
    · exact .inr ⟨a, (j, ys), valV_pos (congrArg Sum.inl c), List.mem_cons_self .., c, e⟩
    · have vn : valV ((Sum.inl j, V.ref a) :: es) (.inl k) = valV es (.inl k) := valV_neg (inl_ne c)
      rcases ih with ⟨h1, h2⟩ | ⟨b, g, h1, h2, h3, h4⟩
      · refine .inl ⟨vn.trans h1, fun g hg => ?_⟩
        rcases List.mem_cons.mp hg with rfl | hg
        · exact c
        · exact h2 g hg
      · exact .inr ⟨b, g, vn.trans h1, List.mem_cons_of_mem _ h2, h3, h4⟩
theorem DG.any {H : Hp} {es : List (Key × V)} {gs : List (Int × List Int)} (h : DG H es gs) (k : Int) : (es.any fun e => decide (e.1 = .inl k)) = gs.any fun g => decide (g.1 = k) := by
  induction h with
  | nil => rfl
  | @cons a j ys es gs e _ ih =>
    rw [List.any_cons, List.any_cons, ih]
    congr 1
    by_cases c : j = k
    · rw [decide_eq_true c, decide_eq_true (congrArg Sum.inl c)]
    · rw [decide_eq_false c, decide_eq_false (inl_ne c)]
theorem DG.map {H : Hp} {es : List (Key × V)} {gs : List (Int × List Int)} (h : DG H es gs) {b : Addr} {k : Int} {ys : List Int} (hb : H b = some (.lst (ys.map V.int))) :
    DG H (es.map fun e => if e.1 = .inl k then (e.1, V.ref b) else e) (gs.map fun g => if g.1 = k then (g.1, ys) else g) := by
  induction h with
  | nil => exact .nil
  | @cons a j zs es gs e _ ih =>
    rw [List.map_cons, List.map_cons]
    by_cases c : j = k
    · rw [if_pos (congrArg Sum.inl c), if_pos c]
      exact .cons hb ih
    · rw [if_neg (inl_ne c), if_neg c]
      exact .cons e ih
theorem DG.snoc {H : Hp} {es : List (Key × V)} {gs : List (Int × List Int)} (h : DG H es gs) {b : Addr} {k : Int} {ys : List Int} (hb : H b = some (.lst (ys.map V.int))) : DG H (es ++ [(.inl k, .ref b)]) (gs ++ [(k, ys)]) := by
  induction h with
  | nil => exact .cons hb .nil
  | cons e _ ih => exact .cons e ih
theorem DG.put {H : Hp} {es : List (Key × V)} {gs : List (Int × List Int)} (h : DG H es gs) {b : Addr} {k : Int} {ys : List Int} (hb : H b = some (.lst (ys.map V.int))) : DG H (putK es (.inl k) (.ref b)) (gPut gs k ys) := by
  unfold putK gPut
  rw [h.any k]
  split
  · exact h.map hb
  · exact h.snoc hb
/-- a list that is none of the dict's changes -/
theorem DG.upd {H : Hp} {es : List (Key × V)} {gs : List (Int × List Int)} {F : Addr} {o : HO} (h : DG H es gs) (n : ∀ k a, (k, V.ref a) ∈ es → a ≠ F) : DG (upd H F o) es gs := by
  induction h with
  | nil => exact .nil
  | cons e _ ih => exact .cons (hp_ne (n _ _ (List.mem_cons_self ..)) e) (ih fun k a m => n k a (List.mem_cons_of_mem _ m))
theorem mem_putK {es : List (Key × V)} {k : Key} {v : V} {e : Key × V} (h : e ∈ putK es k v) : e ∈ es ∨ e.2 = v := by
  unfold putK at h
  split at h
  · obtain ⟨x, hx, rfl⟩ := List.mem_map.mp h
    split
    · exact .inr rfl
    · exact .inl hx
  · rcases List.mem_append.mp h with h | h
    · exact .inl h
    · exact .inr (by rw [List.mem_singleton.mp h])
/-- [f(k) for k in ns if p(k)], f(k) anything -/
theorem lcV {K : PySem.W.Frag} {a C : Addr} {ns : List Int} {g : TG} {tt : TT} {te : TE} {vs : List Nat} {σ : L2.St} {H : Hp} {Qd : Hp → Prop} (p : Int → Bool) (f : Int → V) (hs : SqL K H a (ns.map V.int)) (n : H C = none) (hl : ns.length ≤ 100000)
    (step : ∀ (k : Int) (H' : Hp) (R : VK) (RF : Hp → Prop), k ∈ ns → Same H H' → (p k = true → ∀ H4, Same H' H4 → R (f k) H4) → (p k = false → ∀ H4, Same H' H4 → RF H4) →
      g (.int k) (wipe σ vs) H' fun σ2 H2 => wipe σ2 vs = wipe σ vs ∧ tt σ2 H2 fun b H3 => if b = true then te σ2 H3 R else RF H3)
    (q : ∀ H', Same H H' → H' C = some (.lst ((ns.filter p).map f)) → Qd H') :
    ∃ W : Nat → Nat → Hp → Prop, (∃ m, W 0 m (upd H C (.lst []))) ∧ ∀ i m H, W i m H →
      ((Itl K a).stop i H ∧ Qd H) ∨ ((Itl K a).go i H ∧ ∃ Nx : Hp → Prop, (∀ H', Nx H' → ∃ m', m' < m ∧ W (i + 1) m' H') ∧ ∀ x H', (Itl K a).yld i H x H' → g x (wipe σ vs) H' fun σ2 H2 => wipe σ2 vs = wipe σ vs ∧ tt σ2 H2 fun b H3 =>
        if b = true then te σ2 H3 fun y H4 => ∃ acc, H4 C = some (.lst acc) ∧ acc.length < sizeLine ∧ Nx (upd H4 C (.lst (acc ++ [y]))) else Nx H3) := by
  refine lc_list (xs := ns.map V.int) (fun i H' => Same H H' ∧ H' C = some (.lst (((ns.take i).filter p).map f))) ⟨Same.new n, upd_same⟩ (fun i H' _ e => e.1.seq hs) (fun i x H' hx e => ?_) (fun H' e => ?_)
  · obtain ⟨sm, hC⟩ := e
    obtain ⟨k, gk, rfl⟩ := int_at hx
    refine step k H' _ _ (List.mem_of_getElem? gk) sm (fun hp H4 s4 => ?_) (fun hp H4 s4 => ?_)
    · refine ⟨_, s4 _ _ hC, len_lt ?_, same_trU n (same_tr s4 sm), ?_⟩
      · have l1 := List.length_filter_le p (ns.take i)
        rw [List.length_map]
        rw [List.length_take] at l1
        have l2 : i < ns.length := (List.getElem?_eq_some_iff.mp gk).1
        omega
      · rw [upd_same, List.take_add_one, gk, List.filter_append]
        simp [hp]
    · refine ⟨same_tr s4 sm, ?_⟩
      rw [s4 _ _ hC, List.take_add_one, gk, List.filter_append]
      simp [hp]
  · obtain ⟨sm, hC⟩ := e
    rw [List.length_map, List.take_length] at hC
    exact q H' sm hC
/-! ### readings -/
section
variable {H : Hp} {Q : VK} {K : PySem.W.Frag}
theorem st_ext {p b : Addr} {ns ms : List Int} (h : H p = some (.lst (ns.map V.int))) (hb : H b = some (.lst (ms.map V.int))) (hl : ns.length + ms.length < 100000) (q : Q .non (upd H p (.lst ((ns ++ ms).map V.int)))) : rExtend (.ref p) [.ref b] H Q :=
  ⟨p, b, _, _, rfl, rfl, h, hb, by rw [List.length_map, List.length_map, sizeLine_eq]; omega, by rw [← List.map_append]; exact q⟩
theorem st_allI {a : Addr} {bs : List Bool} (h : SqL K H a (bs.map V.bl)) (q : Q (.bl (bs.all id)) H) : rAll K [.ref a] H Q := ⟨a, bs, rfl, h, q⟩
theorem st_listT {p : Addr} {xs : List V} (h : SqT K H p xs) (q : ∀ l, H l = none → Q (.ref l) (upd H l (.lst xs))) : rListQ K [.ref p] H Q := ⟨p, xs, rfl, .inr h, q⟩
end
def tFrz (te : TE) : TE := fun σ H Q => te σ H fun x H1 => ∃ d kvs, x = .ref d ∧ H1 d = some (.dK kvs) ∧ ∀ od, Q (.ref d) (upd H1 d (.frz od (.dK kvs)))
section
variable {X : Cx} {σ : L2.St} {H : Hp} {Q : VK} {td ty tx te : TE}
/-- a dict that nobody writes from here on -/
theorem pe_frz {e : Expr} (he : PE X e te) : PE X e (tFrz te) := by
  constructor
  intro pins s σ H Q I h
  refine thn (he.run pins s σ H _ I h) ?_
  rintro v s1 ⟨x, H1, I1, r, d, kvs, rfl, hd, q⟩
  obtain ⟨od, I2⟩ := I1.lock hd trivial
  exact ⟨.ref d, _, I2, r, q od⟩
theorem st_frz (h : te σ H fun x H1 => ∃ d kvs, x = .ref d ∧ H1 d = some (.dK kvs) ∧ ∀ od, Q (.ref d) (upd H1 d (.frz od (.dK kvs)))) : tFrz te σ H Q := h
theorem st_itI {R : It → Hp → Prop} (h : td σ H fun x H1 => ∃ d o kvs, x = .ref d ∧ H1 d = some (.frz o (.dK kvs)) ∧ R (Iti d o kvs) H1) : iItems td σ H R := h
theorem st_dg2 (h : td σ H fun x H1 => ∃ a, x = .ref a ∧ IsD H1 a ∧ ty σ H1 fun y H2 => tx σ H2 fun z H3 => ∃ o, DGet H3 a y o ∧ Q (o.getD z) H3) : tDGet2 td ty tx σ H Q := h
theorem st_scI {w : World} {wi : TI} {g : TG} {tt : TT} {vs : List Nat} (h : wi σ H fun J H1 => ∀ D, H1 D = none → ∃ W : Nat → Nat → Hp → Prop, (∃ m, W 0 m (upd H1 D (SetO w D (fun _ => false) 0))) ∧ ∀ i m H, W i m H →
    (J.stop i H ∧ Q (.ref D) H) ∨ (J.go i H ∧ ∃ Nx : Hp → Prop, (∀ H', Nx H' → ∃ m', m' < m ∧ W (i + 1) m' H') ∧ ∀ x H', J.yld i H x H' → turnS w D σ vs g tt te x H' Nx)) : tScI w wi g tt te vs σ H Q := h
end
/-- for k, v in d.items(): .. -/
theorem fI {d : Addr} {o : Obj} {kvs : List (Key × V)} {g : TG} {tb : TS} {nx : L2.St → Hp → Prop} {rt : VK} {σ : L2.St} {H : Hp} (Pv : Nat → L2.St → Hp → Prop) (h0 : Pv 0 σ H) (hl : ∀ i σ H, i ≤ kvs.length → Pv i σ H → H d = some (.frz o (.dK kvs)))
    (hs : ∀ i k v T σ H, kvs[i]? = some (k, v) → Pv i σ H → H T = none → g (.ref T) σ (upd H T (.tup [kV k, v])) fun σ2 H2 => tb ⟨Pv (i + 1), rt, nx, Pv (i + 1)⟩ σ2 H2) (hd : ∀ σ H, Pv kvs.length σ H → nx σ H) :
    ∃ W : Nat → Nat → L2.St → Hp → Prop, (∃ m, W 0 m σ H) ∧ ∀ i m σ H, W i m σ H →
      ((Iti d o kvs).stop i H ∧ nx σ H) ∨ ((Iti d o kvs).go i H ∧ ∃ N : L2.St → Hp → Prop, (∀ σ' H', N σ' H' → ∃ m', m' < m ∧ W (i + 1) m' σ' H') ∧ ∀ x H', (Iti d o kvs).yld i H x H' → g x σ H' fun σ2 H2 => tb ⟨N, rt, nx, N⟩ σ2 H2) := by
  refine ⟨fun i m σ H => m = kvs.length - i ∧ i ≤ kvs.length ∧ Pv i σ H, ⟨_, rfl, Nat.zero_le _, h0⟩, ?_⟩
  rintro i m σ1 H1 ⟨rfl, hi, p⟩
  have z := hl i σ1 H1 hi p
  by_cases lt : i < kvs.length
  · refine .inr ⟨⟨z, lt⟩, Pv (i + 1), fun σ' H' p' => ⟨_, Nat.sub_succ_lt_self _ _ lt, rfl, lt, p'⟩, ?_⟩
    rintro x H' ⟨T, k, v, e, rfl, nT, rfl⟩
    exact hs i k v T σ1 H1 e p nT
  · obtain rfl : i = kvs.length := by omega
    exact .inl ⟨⟨z, Nat.le_refl _⟩, hd σ1 H1 p⟩
end Mc
/-! defs that are called where no repr is under way; comprehensions over a range -/
namespace Mc
open PySem PySem.Spec PyProof.Rows L2
/-- a def's promise where no repr is under way -/
structure FnR (P : Program) (w : World) (K : PySem.W.Frag) (mg : Str → Option Value) (base : Heap) (CX : CXT) (k : Nat) (f : Addr) (fd : FuncData) (ps : List Str) (sp : Sp) : Prop where
  len : ∀ vs H Q E, sp vs H Q E → vs.length = ps.length
  run : ∀ (A : Around) (outer : List Env) (s : Shared) (H : Hp) (us : List Value) (vs : List V) (Q : VK) (E : XK), A.guards = some [] → Room k A → Env0 P w K mg base A outer s H → BindsTo s fd ⟨us, []⟩ (ps.zip us) → Vals vs us → sp vs H Q E →
    codeAny (model P w) A (.call (.ref f) ⟨us, []⟩) (CR CX outer P w H s Q E) s
section
variable {P : Program} {w : World} {K : PySem.W.Frag} {mg : Str → Option Value} {base : Heap} {y qual : Str} {params : Arguments} {body : List Stmt} {scope : Scope} {dvs : List V} {kws : List (Str × V)} {f : Addr} {fd : FuncData} {CX : CXT} {N ps : List Str} {k : Nat} {sp : Sp}
theorem okR (F : FunD K y qual params body scope dvs kws f fd) (S : FnScope N ps scope) (len : ∀ vs H Q E, sp vs H Q E → vs.length = ps.length)
    (main : ∀ (cdv : Value) (A : Around) (outer : List Env) (s : Shared) (H : Hp) (vs : List V) (Q : VK) (E : XK), A.guards = some [] → Room k (A.deeper (envOfC qual scope s.heap.objs.size f cdv)) → sp vs H Q E →
      ∃ t, PSs (cxOf CX P w K mg base N qual scope f cdv A outer s H E) body t ∧ t { nx := fun _ H' => Q .non H', rt := Q } (start N vs) H) : FnR P w K mg base CX (k + 1) f fd ps sp := by
  obtain ⟨_, _, _, _, _, _, _, cdv, _, _, rfl, lk, hcd, _, _⟩ := F.ex
  refine ⟨len, fun A outer s H us vs Q E gu hr e0 hb r hsp => ?_⟩
  have keepB : ∀ b o, base.get? b = some o → s.heap.get? b = some o := fun b o e => (e0.bs b o e).1
  have KI : K.In s.heap := e0.mod.kin.keeps keepB
  have places : ∀ z ∈ ps.zip us, scope.names.lookup z.1 = some .local ∨ (scope.names.lookup z.1 = some .cell ∧ ((cellsFrom (s.heap.objs.size + 1) scope.names []).lookup z.1).isSome = true) := fun z hz =>
    (S.par z.1 (List.of_mem_zip (a := z.1) (b := z.2) hz).1).imp id fun q => ⟨q, PySem.W.cellsFrom_some _ _ _ (.inl q)⟩
  refine codeAny_call_function hr.depth (KI _ _ lk) rfl S.co S.gen rfl (PySem.W.codeRec_of KI hcd) (hb _ _ _ _ (wpAny_newFunctionEnv_cells S.kind places fun env ee s1 made => ?_))
  subst ee
  refine ⟨(e0.mod.nolimit.keeps keepB).keeps made.toInCall.keep, codeAny_func ?_⟩
  obtain ⟨t, ht, go⟩ := main cdv A outer s H vs Q E gu (hr.deeper _) hsp
  refine wpAny_mono (ht.run [] s1 (start N vs) H _ (inv_start S hr.hd e0 (len _ _ _ _ hsp) r made) go) (fun fl s2 z => ?_) fun _ _ z => z
  match fl, z with
  | .ret u, ⟨v, σ2, H2, J, rv, q⟩ => exact ⟨v, H2, J.os, J.bare, J.base, J.hok, rv, q⟩
  | .next, ⟨σ2, H2, J, q⟩ => exact ⟨.non, H2, J.os, J.bare, J.base, J.hok, rfl, q⟩
  | .brk, ⟨_, _, _, q⟩ => exact q.elim
  | .cont, ⟨_, _, _, q⟩ => exact q.elim
end
section
variable {X : Cx} {CX : CXT} {k : Nat} {f : Addr} {fd : FuncData} {ps : List Str} {x : Str} {e : Expr} {es : List Expr} {t : TA} {q pos : Pos} {sp : Sp} {E : XK}
theorem pe_callR (F : FnR X.prog X.w X.K X.mg X.base CX k f fd ps sp) (gu : X.A.guards = some []) (hr : Room k X.A) (hg : Gl X x) (hm : X.mg x = some (.ref f)) (hk : PySem.W.keepIn X.K (.ref f) = true) (hb : Binds X.K fd ps []) (hx : Passes CX X E) (ha : PA X (e :: es) t)
    (hdb : (x == ("__debug__" : Str)) = false := by decide) (he : starEach (e :: es) X.env = (false, eval e X.env) :: starEach es X.env := by rfl) (hpl : (backTo pos (starEach es X.env)).any (·.1) = false := by rfl) :
    PE X (.Call (.Name x q) (e :: es) [] pos) (tCall sp [] E t) := by
  refine ⟨fun pins s σ H Q I h => wpAny_Call_Name_kw (ld_glob I hg hm (PySem.W.callWith_K (h₀ := X.base) I.ok.mod.kin hk (thn (ha.run pos pins _ σ H _ I h) fun us s1 ⟨vs, H1, I1, r1, z⟩ => ⟨I1.kIn, ?_⟩) he hpl) hdb)⟩
  change sp (vs ++ []) H1 Q E at z
  rw [List.append_nil] at z
  have b2 := hb s1 us I1.kIn (by rw [List.append_nil, ← r1.length]; exact F.len _ _ _ _ z)
  rw [List.append_nil] at b2
  refine wpAny_call (codeAny_mono (F.run X.A X.stack s1 H1 us vs Q E gu hr I1.env0 b2 r1 z) fun r s2 y => ?_)
  match r, y with
  | .error er, y => exact hx pins σ H1 s1 er s2 I1 y
  | .ok (.ret u), y => exact I1.after y
  | .ok .next, y => exact y.elim
  | .ok .brk, y => exact y.elim
  | .ok .cont, y => exact y.elim
end
/-- [f(k) for k in range(n) if p(k)], f(k) a number -/
theorem lcRM {C : Addr} {n : Nat} {g : TG} {tt : TT} {te : TE} {vs : List Nat} {σ : L2.St} {H : Hp} {Qd : Hp → Prop} (p : Int → Bool) (f : Int → Int) (nC : H C = none) (hl : n ≤ 100000)
    (step : ∀ (k : Int) (H' : Hp) (R : VK) (RF : Hp → Prop), 0 ≤ k → k < n → Same H H' → (p k = true → ∀ H4, Same H' H4 → R (.int (f k)) H4) → (p k = false → ∀ H4, Same H' H4 → RF H4) →
      g (.int k) (wipe σ vs) H' fun σ2 H2 => wipe σ2 vs = wipe σ vs ∧ tt σ2 H2 fun b H3 => if b = true then te σ2 H3 R else RF H3)
    (q : ∀ H', Same H H' → H' C = some (.lst ((((rgN n).filter p).map f).map V.int)) → Qd H') :
    ∃ W : Nat → Nat → Hp → Prop, (∃ m, W 0 m (upd H C (.lst []))) ∧ ∀ i m H, W i m H →
      ((Itr 0 n).stop i H ∧ Qd H) ∨ ((Itr 0 n).go i H ∧ ∃ Nx : Hp → Prop, (∀ H', Nx H' → ∃ m', m' < m ∧ W (i + 1) m' H') ∧ ∀ x H', (Itr 0 n).yld i H x H' → g x (wipe σ vs) H' fun σ2 H2 => wipe σ2 vs = wipe σ vs ∧ tt σ2 H2 fun b H3 =>
        if b = true then te σ2 H3 fun y H4 => ∃ acc, H4 C = some (.lst acc) ∧ acc.length < sizeLine ∧ Nx (upd H4 C (.lst (acc ++ [y]))) else Nx H3) := by
  have snoc : ∀ i, rgN (i + 1) = rgN i ++ [(i : Int)] := fun i => by
    unfold rgN
    rw [List.range_succ, List.map_append]
    rfl
  refine lc_range (lo := 0) (n := n) (fun i H' => Same H H' ∧ H' C = some (.lst ((((rgN i).filter p).map f).map V.int))) ⟨Same.new nC, upd_same⟩ (fun i H' hi e => ?_) (fun H' e => q H' e.1 e.2)
  obtain ⟨sm, hC⟩ := e
  rw [Int.zero_add]
  refine step i H' _ _ (by omega) (by omega) sm (fun hp H4 s4 => ?_) (fun hp H4 s4 => ?_)
  · refine ⟨_, s4 _ _ hC, len_lt ?_, same_trU nC (same_tr s4 sm), ?_⟩
    · have l1 := List.length_filter_le p (rgN i)
      have ll : (rgN i).length = i := by unfold rgN; rw [List.length_map, List.length_range]
      rw [List.length_map, List.length_map]
      omega
    · rw [upd_same, snoc, List.filter_append]
      simp [hp]
  · refine ⟨same_tr s4 sm, ?_⟩
    rw [s4 _ _ hC, snoc, List.filter_append]
    simp [hp]
end Mc
/-! what does not change a normal form: cycles of 4800 months, the order of the visits -/
namespace Mc
open PySem PySem.Spec PyProof.Rows L2
/-! ### modulo 4800 -/
theorem nfL_mod {l m : List Int} (h : ∀ k, (∃ n ∈ l, n % 4800 = k) ↔ ∃ n ∈ m, n % 4800 = k) : nfL l = nfL m := by
  have one : ∀ (l m : List Int), (∀ k, (∃ n ∈ l, n % 4800 = k) → ∃ n ∈ m, n % 4800 = k) → ∀ r y, (∃ n ∈ l, n % 12 = r ∧ n / 12 % 400 = y) → ∃ n ∈ m, n % 12 = r ∧ n / 12 % 400 = y := fun l m h r y z => by
    obtain ⟨n, hn, e1, e2⟩ := z
    obtain ⟨k, hk, e⟩ := h _ ⟨n, hn, rfl⟩
    exact ⟨k, hk, by omega, by omega⟩
  have mem : ∀ (l : List Int) r y, y ∈ ((yrs l r).map fun y => y % 400) ↔ ∃ n ∈ l, n % 12 = r ∧ n / 12 % 400 = y := fun l r y => by
    unfold yrs
    rw [List.map_map, List.mem_map]
    constructor
    · rintro ⟨n, hn, e⟩
      obtain ⟨h1, h2⟩ := List.mem_filter.mp hn
      exact ⟨n, h1, of_decide_eq_true h2, e⟩
    · rintro ⟨n, hn, e1, e2⟩
      exact ⟨n, List.mem_filter.mpr ⟨hn, decide_eq_true e1⟩, e2⟩
  have both : ∀ r y, y ∈ ((yrs l r).map fun y => y % 400) ↔ y ∈ ((yrs m r).map fun y => y % 400) := fun r y => by
    rw [mem, mem]
    exact ⟨one l m (fun k => (h k).mp) r y, one m l (fun k => (h k).mpr) r y⟩
  unfold nfL
  refine flat_congr fun r _ => ?_
  have e1 : lftR l r = lftR m r := by
    unfold lftR
    rw [srt_ext (both r)]
  have e2 : yrs l r = [] ↔ yrs m r = [] := by
    have z := both r
    constructor
    · intro e
      refine (List.map_eq_nil_iff (f := fun y : Int => y % 400)).mp (List.eq_nil_iff_forall_not_mem.mpr fun y hy => ?_)
      have := (z y).mpr hy
      rw [e] at this
      cases this
    · intro e
      refine (List.map_eq_nil_iff (f := fun y : Int => y % 400)).mp (List.eq_nil_iff_forall_not_mem.mpr fun y hy => ?_)
      have := (z y).mp hy
      rw [e] at this
      cases this
  unfold nfR
  by_cases c : yrs l r = []
  · rw [if_pos c, if_pos (e2.mp c)]
  · rw [if_neg c, if_neg fun z => c (e2.mpr z), e1]
/-- alike modulo 4800, one by one -/
inductive Cg : List Int → List Int → Prop
  | nil : Cg [] []
  | cons {a b : Int} {l m : List Int} : (a - b) % 4800 = 0 → Cg l m → Cg (a :: l) (b :: m)
theorem Cg.snoc {a b : Int} {l m : List Int} (h : Cg l m) (e : (a - b) % 4800 = 0) : Cg (l ++ [a]) (m ++ [b]) := by
  induction h with
  | nil => exact .cons e .nil
  | cons h _ ih => exact .cons h ih
theorem Cg.smF {l m : List Int} (h : Cg l m) : ∀ {x y : Int}, (x - y) % 4800 = 0 → Cg (Mc.smF x l) (Mc.smF y m) := by
  induction h with
  | nil => exact fun e => .cons e .nil
  | cons h _ ih => exact fun e => .cons e (ih (by omega))
theorem Cg.len {l m : List Int} (h : Cg l m) : l.length = m.length := by
  induction h with
  | nil => rfl
  | cons _ _ ih => rw [List.length_cons, List.length_cons, ih]
theorem Cg.mem {l m : List Int} (h : Cg l m) (k : Int) : (∃ n ∈ l, n % 4800 = k) ↔ ∃ n ∈ m, n % 4800 = k := by
  induction h with
  | nil => exact Iff.rfl
  | @cons a b l m e _ ih =>
    simp only [List.mem_cons, exists_eq_or_imp]
    rw [ih, show a % 4800 = b % 4800 by omega]
theorem nfS_cg {l m : List Int} (h : Cg l m) : nfS l = nfS m := by
  unfold nfS
  rw [nfL_mod (l := srt (sms l)) (m := srt (sms m)) fun k => ?_]
  have z := (h.smF (x := 0) (y := 0) rfl).mem k
  constructor
  · rintro ⟨n, hn, e⟩
    obtain ⟨j, hj, e2⟩ := z.mp ⟨n, mem_srt.mp hn, e⟩
    exact ⟨j, mem_srt.mpr hj, e2⟩
  · rintro ⟨n, hn, e⟩
    obtain ⟨j, hj, e2⟩ := z.mpr ⟨n, mem_srt.mp hn, e⟩
    exact ⟨j, mem_srt.mpr hj, e2⟩
/-! ### another order -/
theorem nfS_ext {l m : List Int} (h : ∀ k, k ∈ sms l ↔ k ∈ sms m) : nfS l = nfS m := by
  unfold nfS
  rw [srt_ext h]
/-- the visits behind the start -/
def spt (ns : List Int) : List Int := (sms ns).drop 1
theorem sms_spt (ns : List Int) : sms ns = 0 :: spt ns := by
  unfold spt sms
  match ns with
  | [] => rfl
  | n :: ns => rfl
theorem spt_len (ns : List Int) : (spt ns).length = ns.length := by
  have h := sms_len ns
  rw [sms_spt, List.length_cons] at h
  omega
theorem spt_take {ns : List Int} {i : Nat} {k : Int} (h : ns[i]? = some k) : spt (ns.take (i + 1)) = spt (ns.take i) ++ [(ns.take i).sum + k] := by
  have e := sms_take h
  rw [sms_spt, sms_spt, List.cons_append] at e
  exact (List.cons.inj e).2
theorem reord {ns X : List Int} (h : X.Perm ((spt ns).take ((spt ns).length - 1))) : nfS (dif 0 (X ++ (spt ns).drop ((spt ns).length - 1))) = nfS ns ∧ (dif 0 (X ++ (spt ns).drop ((spt ns).length - 1))).sum = ns.sum := by
  have e : sms (dif 0 (X ++ (spt ns).drop ((spt ns).length - 1))) = 0 :: (X ++ (spt ns).drop ((spt ns).length - 1)) := smF_dif _ 0
  have hp : (X ++ (spt ns).drop ((spt ns).length - 1)).Perm (spt ns) := by
    have z := h.append_right ((spt ns).drop ((spt ns).length - 1))
    rw [List.take_append_drop] at z
    exact z
  refine ⟨nfS_ext fun k => ?_, ?_⟩
  · rw [e, sms_spt, List.mem_cons, List.mem_cons, hp.mem_iff]
  · have a := sms_last (dif 0 (X ++ (spt ns).drop ((spt ns).length - 1)))
    have b := sms_last ns
    rw [e] at a
    rw [sms_spt] at b
    refine Option.some.inj (a.symm.trans (Eq.trans ?_ b))
    by_cases c : spt ns = []
    · have x : X = [] := by
        have l := hp.length_eq
        rw [c] at l
        rw [c] at h
        exact List.eq_nil_of_length_eq_zero (by have := h.length_eq; simpa using this)
      rw [c, x]
      rfl
    · have pos := List.length_pos_iff.mpr c
      have dl : (spt ns).drop ((spt ns).length - 1) = [(spt ns)[(spt ns).length - 1]] := by
        rw [List.drop_eq_getElem_cons (by omega)]
        congr 1
        exact List.drop_eq_nil_iff.mpr (by omega)
      rw [dl]
      have e1 : (0 :: (X ++ [(spt ns)[(spt ns).length - 1]])).getLast? = some ((spt ns)[(spt ns).length - 1]) := by
        rw [← List.cons_append, List.getLast?_append]
        rfl
      have e2 : (0 :: spt ns).getLast? = some ((spt ns)[(spt ns).length - 1]) := by
        rw [List.getLast?_cons, List.getLast?_eq_getElem?, List.getElem?_eq_getElem (by omega)]
        rfl
      rw [e1, e2]
theorem dif_get0 {l : List Int} {i : Nat} {x y : Int} (hx : (0 :: l)[i]? = some x) (hy : (0 :: l)[i + 1]? = some y) : (dif 0 l)[i]? = some (y - x) := dif_get hx hy
/-! ### slices, pops -/
theorem sIx_m1 (n d : Nat) : HT.sIx n d (some (-1)) = n - 1 := by
  show (if (-1 : Int) < 0 then ((-1 : Int) + (n : Int)).toNat else min (-1 : Int).toNat n) = n - 1
  rw [if_pos (by decide)]
  omega
theorem cutV_init (xs : List V) : cutV xs none (some (-1)) = xs.take (xs.length - 1) := by
  unfold cutV
  rw [HT.sIx_none, sIx_m1, List.drop_zero, Nat.sub_zero]
theorem cutV_end (xs : List V) : cutV xs (some (-1)) none = xs.drop (xs.length - 1) := by
  unfold cutV
  rw [HT.sIx_none, sIx_m1]
  exact List.take_of_length_le (by rw [List.length_drop]; exact Nat.le_refl _)
theorem perm_er : ∀ {ls : List Int} {i : Nat} {k : Int}, ls[i]? = some k → (k :: ls.eraseIdx i).Perm ls
  | [], _, _, h => by cases h
  | a :: l, 0, k, h => by
    cases h
    exact List.Perm.refl _
  | a :: l, i + 1, k, h => by
    show (k :: a :: l.eraseIdx i).Perm (a :: l)
    exact (List.Perm.swap a k _).trans ((perm_er (ls := l) h).cons a)
theorem perm_po {ls os : List Int} {i : Nat} {k : Int} (h : ls[i]? = some k) : ((os ++ [k]) ++ ls.eraseIdx i).Perm (os ++ ls) := by
  rw [List.append_assoc]
  exact List.Perm.append_left _ (perm_er h)
section
variable {K : PySem.W.Frag} {H : Hp} {Q : VK} {p : Addr} {ns : List Int}
theorem st_slInit (h : SqL K H p (ns.map V.int)) (q : ∀ u, H u = none → Q (.ref u) (upd H u (.lst ((ns.take (ns.length - 1)).map V.int)))) : rSlL K (.ref p) none (some (-1)) H Q := by
  refine st_slL h ?_
  rw [cutV_init, List.length_map, ← List.map_take]
  exact q
theorem st_slEnd (h : SqL K H p (ns.map V.int)) (q : ∀ u, H u = none → Q (.ref u) (upd H u (.lst ((ns.drop (ns.length - 1)).map V.int)))) : rSlL K (.ref p) (some (-1)) none H Q := by
  refine st_slL h ?_
  rw [cutV_end, List.length_map, ← List.map_drop]
  exact q
end
theorem nf_49 : nfS (List.replicate 49 48) = [0, 12] := by decide +kernel
theorem nf_48 : (nfS (List.replicate 48 48)).length = 49 := by decide +kernel
end Mc
/-! which Februaries a list of visits meets; lists alike in that have one normal form, and it is alike to them -/
namespace Mc
/-- some February is met from the month n -/
def Ef (vs : List Int) (n : Int) : Prop := ∃ v ∈ vs, (n + v) % 12 = 1
/-- every February that is met from the month n is of a leap year -/
def Pf (vs : List Int) (n : Int) : Prop := ∀ v ∈ vs, (n + v) % 12 = 1 → lp ((n + v) / 12) = true
structure Eqv (l m : List Int) : Prop where
  e : ∀ n, Ef l n ↔ Ef m n
  p : ∀ n, Pf l n ↔ Pf m n
theorem Eqv.refl (l : List Int) : Eqv l l := ⟨fun _ => Iff.rfl, fun _ => Iff.rfl⟩
theorem Eqv.symm {l m : List Int} (h : Eqv l m) : Eqv m l := ⟨fun n => (h.e n).symm, fun n => (h.p n).symm⟩
theorem Eqv.trans {l m k : List Int} (h : Eqv l m) (g : Eqv m k) : Eqv l k := ⟨fun n => (h.e n).trans (g.e n), fun n => (h.p n).trans (g.p n)⟩
theorem Eqv.ext {l m : List Int} (h : ∀ k, k ∈ l ↔ k ∈ m) : Eqv l m := ⟨fun n => by
  unfold Ef
  constructor
  · rintro ⟨v, hv, e⟩
    exact ⟨v, (h v).mp hv, e⟩
  · rintro ⟨v, hv, e⟩
    exact ⟨v, (h v).mpr hv, e⟩, fun n => ⟨fun z v hv => z v ((h v).mpr hv), fun z v hv => z v ((h v).mp hv)⟩⟩
theorem Ef.app {l m : List Int} {n : Int} : Ef (l ++ m) n ↔ Ef l n ∨ Ef m n := by
  unfold Ef
  constructor
  · rintro ⟨v, hv, e⟩
    rcases List.mem_append.mp hv with hv | hv
    · exact .inl ⟨v, hv, e⟩
    · exact .inr ⟨v, hv, e⟩
  · rintro (⟨v, hv, e⟩ | ⟨v, hv, e⟩)
    · exact ⟨v, List.mem_append_left _ hv, e⟩
    · exact ⟨v, List.mem_append_right _ hv, e⟩
theorem Pf.app {l m : List Int} {n : Int} : Pf (l ++ m) n ↔ Pf l n ∧ Pf m n := ⟨fun z => ⟨fun v hv => z v (List.mem_append_left _ hv), fun v hv => z v (List.mem_append_right _ hv)⟩, fun z v hv => by
  rcases List.mem_append.mp hv with hv | hv
  · exact z.1 v hv
  · exact z.2 v hv⟩
theorem Ef.sh {l : List Int} {t n : Int} : Ef (l.map fun v => t + v) n ↔ Ef l (n + t) := by
  unfold Ef
  constructor
  · rintro ⟨v, hv, e⟩
    obtain ⟨w, hw, rfl⟩ := List.mem_map.mp hv
    exact ⟨w, hw, by rw [← e]; congr 1; omega⟩
  · rintro ⟨w, hw, e⟩
    exact ⟨t + w, List.mem_map_of_mem hw, by rw [← e]; congr 1; omega⟩
theorem Pf.sh {l : List Int} {t n : Int} : Pf (l.map fun v => t + v) n ↔ Pf l (n + t) := by
  unfold Pf
  constructor
  · intro z w hw e
    have := z (t + w) (List.mem_map_of_mem hw) (by rw [← e]; congr 1; omega)
    rw [show n + t + w = n + (t + w) by omega]
    exact this
  · intro z v hv e
    obtain ⟨w, hw, rfl⟩ := List.mem_map.mp hv
    have := z w hw (by rw [← e]; congr 1; omega)
    rw [show n + (t + w) = n + t + w by omega]
    exact this
theorem Eqv.app {l m l' m' : List Int} (h : Eqv l m) (h' : Eqv l' m') : Eqv (l ++ l') (m ++ m') := ⟨fun n => by rw [Ef.app, Ef.app, h.e, h'.e], fun n => by rw [Pf.app, Pf.app, h.p, h'.p]⟩
theorem Eqv.sh {l m : List Int} (h : Eqv l m) (t : Int) : Eqv (l.map fun v => t + v) (m.map fun v => t + v) := ⟨fun n => by rw [Ef.sh, Ef.sh, h.e], fun n => by rw [Pf.sh, Pf.sh, h.p]⟩
/-! ### by the years of a distance -/
theorem mem_yrs {l : List Int} {r o : Int} (r0 : 0 ≤ r) (r1 : r < 12) : o ∈ yrs l r ↔ 12 * o + r ∈ l := by
  unfold yrs
  rw [List.mem_map]
  constructor
  · rintro ⟨n, hn, e⟩
    obtain ⟨h1, h2⟩ := List.mem_filter.mp hn
    have h3 := of_decide_eq_true h2
    rw [show 12 * o + r = n by omega]
    exact h1
  · intro h
    exact ⟨12 * o + r, List.mem_filter.mpr ⟨h, decide_eq_true (by omega)⟩, by omega⟩
theorem ef_yrs {l : List Int} {n : Int} : Ef l n ↔ yrs l ((1 - n) % 12) ≠ [] := by
  constructor
  · rintro ⟨v, hv, e⟩
    exact yrs_some hv (by omega)
  · intro h
    obtain ⟨o, ho⟩ := List.exists_mem_of_ne_nil _ h
    have := (mem_yrs (by omega) (by omega)).mp ho
    exact ⟨_, this, by omega⟩
theorem pf_yrs {l : List Int} {n : Int} : Pf l n ↔ ∀ o ∈ yrs l ((1 - n) % 12), lp ((n + (1 - n) % 12) / 12 + o) = true := by
  constructor
  · intro z o ho
    have hm := (mem_yrs (by omega) (by omega)).mp ho
    have := z _ hm (by omega)
    rw [show (n + (1 - n) % 12) / 12 + o = (n + (12 * o + (1 - n) % 12)) / 12 by omega]
    exact this
  · intro z v hv e
    have hr : v % 12 = (1 - n) % 12 := by omega
    have hm : v / 12 ∈ yrs l ((1 - n) % 12) := (mem_yrs (by omega) (by omega)).mpr (by rw [show 12 * (v / 12) + (1 - n) % 12 = v by omega]; exact hv)
    have := z _ hm
    rw [show (n + v) / 12 = (n + (1 - n) % 12) / 12 + v / 12 by omega]
    exact this
theorem lp_400 (n : Int) : lp (n % 400) = lp n := by
  unfold lp
  rw [Bool.eq_iff_iff]
  simp only [Bool.and_eq_true, Bool.or_eq_true, Bool.not_eq_true', decide_eq_true_eq, decide_eq_false_iff_not]
  omega
/-- what is left, as a property of any year -/
theorem mem_lft {os : List Int} {y : Int} : y % 400 ∈ lft os ↔ ∀ o ∈ os, lp (y + o) = true := by
  unfold lft
  rw [List.mem_filter, mem_rg400, List.all_eq_true]
  constructor
  · rintro ⟨_, h⟩ o ho
    have := h o ho
    rw [← lp_400] at this ⊢
    rw [show (y + o) % 400 = (y % 400 + o) % 400 by omega]
    exact this
  · intro h
    refine ⟨by omega, fun o ho => ?_⟩
    have := h o ho
    rw [← lp_400] at this ⊢
    rw [show (y % 400 + o) % 400 = (y + o) % 400 by omega]
    exact this
theorem lft_ext {os ps : List Int} (h : ∀ y, (∀ o ∈ os, lp (y + o) = true) ↔ ∀ o ∈ ps, lp (y + o) = true) : lft os = lft ps := by
  unfold lft
  refine List.filter_congr fun y _ => ?_
  rw [Bool.eq_iff_iff, List.all_eq_true, List.all_eq_true]
  exact h y
theorem lp_os {os : List Int} {y : Int} : (∀ o ∈ os.map (fun y => y % 400), lp (y + o) = true) ↔ ∀ o ∈ os, lp (y + o) = true := by
  constructor
  · intro h o ho
    have := h _ (List.mem_map_of_mem (f := fun y => y % 400) ho)
    rw [← lp_400] at this ⊢
    rw [show (y + o) % 400 = (y + o % 400) % 400 by omega]
    exact this
  · intro h o ho
    obtain ⟨p, hp, rfl⟩ := List.mem_map.mp ho
    have := h p hp
    rw [← lp_400] at this ⊢
    rw [show (y + p % 400) % 400 = (y + p) % 400 by omega]
    exact this
theorem lftR_eq (l : List Int) (r : Int) : lftR l r = lft (yrs l r) := by
  unfold lftR
  refine lft_ext fun y => ?_
  rw [← lp_os (os := yrs l r)]
  exact ⟨fun z o ho => z o (mem_srt.mpr ho), fun z o ho => z o (mem_srt.mp ho)⟩
/-- alike lists have one normal form -/
theorem Eqv.nfL {l m : List Int} (h : Eqv l m) : nfL l = nfL m := by
  unfold Mc.nfL
  refine flat_congr fun r hr => ?_
  obtain ⟨r0, r1⟩ := mem_rgN.mp hr
  have e1 : (1 - (1 - r)) % 12 = r := by omega
  have a := h.e (1 - r)
  rw [ef_yrs, ef_yrs, e1] at a
  have b : lftR l r = lftR m r := by
    rw [lftR_eq, lftR_eq]
    refine lft_ext fun y => ?_
    have z := h.p (12 * y + 1 - r)
    rw [pf_yrs, pf_yrs] at z
    rw [show (1 - (12 * y + 1 - r)) % 12 = r by omega, show (12 * y + 1 - r + r) / 12 = y by omega] at z
    exact z
  unfold nfR
  by_cases c : yrs l r = []
  · rw [if_pos c, if_pos (Classical.byContradiction fun z => a.mpr z c)]
  · rw [if_neg c, if_neg (a.mp c), b]
/-! ### the years of a normal form leave the same years -/
/-- what a visit asks of a month's quarter -/
def cnd (p q : Int) : Prop := (p + q) % 25 ≠ 0 ∨ (p + q) % 100 = 0
theorem lp_q {y o r : Int} (ho : o % 4 = r) : lp (y + o) = true ↔ ((y + r) % 4 = 0 ∧ cnd ((y + r) / 4) (o / 4 % 100)) := by
  rw [← lp_400, show (y + o) % 400 = (y + o % 400) % 400 by omega, lp_400]
  exact lp_mod ho
theorem cnd_mod {p q : Int} : cnd p (q % 100) ↔ cnd p q := by
  unfold cnd
  omega
theorem lp_4 {y q r : Int} (r0 : 0 ≤ r) (r1 : r < 4) : lp (y + (r + 4 * q)) = true ↔ ((y + r) % 4 = 0 ∧ cnd ((y + r) / 4) q) := by
  rw [lp_q (r := r) (by omega), show (r + 4 * q) / 4 = q by omega, cnd_mod]
theorem mem_nMem {qs : List Int} {g q : Int} : q ∈ nMem qs g ↔ q ∈ qs ∧ q % 25 = g := by
  unfold nMem
  rw [List.mem_filter, decide_eq_true_eq]
theorem cho_cnd {r g p : Int} {M : List Int} (hm : ∀ q ∈ M, 0 ≤ q ∧ q < 100 ∧ q % 25 = g) (hp : M.Pairwise (· < ·)) (g0 : 0 ≤ g) (g1 : g < 25) :
    (∀ o ∈ nCho r g M, ∃ q, o = r + 4 * q) ∧ ((∀ q, r + 4 * q ∈ nCho r g M → cnd p q) ↔ ∀ q ∈ M, cnd p q) := by
  unfold nCho
  by_cases h : M.length < 2
  · rw [if_pos h]
    refine ⟨fun o ho => ?_, ?_⟩
    · obtain ⟨q, _, rfl⟩ := List.mem_map.mp ho
      exact ⟨q, rfl⟩
    · constructor
      · intro z q hq
        exact z q (List.mem_map_of_mem (f := fun q => r + 4 * q) hq)
      · intro z q hq
        obtain ⟨w, hw, e⟩ := List.mem_map.mp hq
        have e2 : w = q := by
          have e3 : r + 4 * w = r + 4 * q := e
          omega
        exact e2 ▸ z w hw
  · rw [if_neg h]
    refine ⟨fun o ho => ?_, ?_⟩
    · obtain ⟨q, _, rfl⟩ := List.mem_map.mp ho
      exact ⟨q, rfl⟩
    · obtain ⟨a, b, ha, hb, ab⟩ := two_of (by omega) hp
      have a1 := hm a ha
      have b1 := hm b hb
      have key : (∀ q ∈ M, cnd p q) ↔ (p + g) % 25 ≠ 0 := by
        constructor
        · intro z
          have za := z a ha
          have zb := z b hb
          unfold cnd at za zb
          omega
        · intro z q hq
          have := hm q hq
          unfold cnd
          omega
      rw [key]
      constructor
      · intro z
        have z1 := z g (by simp)
        have z2 := z (g + 25) (by simp)
        unfold cnd at z1 z2
        omega
      · intro z q hq
        simp only [List.map_cons, List.map_nil, List.mem_cons, List.not_mem_nil, or_false] at hq
        unfold cnd
        omega
theorem nY_lp {r : Int} {ys : List Int} (hr : ∃ y ∈ ys, y % 4 = r) (y : Int) : (∀ o ∈ nY r ys, lp (y + o) = true) ↔ ∀ o ∈ ys, lp (y + o) = true := by
  obtain ⟨y0, hy0, hr⟩ := hr
  have no01 : ¬ ∀ o ∈ ([0, 1] : List Int), lp (y + o) = true := fun z => by
    have a := (lp_q (r := 0) rfl).mp (z 0 (by simp))
    have b := (lp_q (r := 1) rfl).mp (z 1 (by simp))
    have a1 := a.1
    have b1 := b.1
    omega
  unfold nY
  by_cases ha : ys.all (fun y => decide (y % 4 = r)) = true
  · rw [if_pos ha]
    have ha2 : ∀ o ∈ ys, o % 4 = r := fun o ho => of_decide_eq_true (List.all_eq_true.mp ha o ho)
    have r0 : 0 ≤ r := by omega
    have r1 : r < 4 := by omega
    have hq : ∀ q ∈ srt (ys.map fun y => y / 4 % 100), 0 ≤ q ∧ q < 100 := fun q h => by
      obtain ⟨w, _, rfl⟩ := List.mem_map.mp (mem_srt.mp h)
      show 0 ≤ w / 4 % 100 ∧ w / 4 % 100 < 100
      omega
    have hs := pw_srt (ys.map fun y => y / 4 % 100)
    have right : (∀ o ∈ ys, lp (y + o) = true) ↔ ((y + r) % 4 = 0 ∧ ∀ q ∈ srt (ys.map fun y => y / 4 % 100), cnd ((y + r) / 4) q) := by
      constructor
      · intro z
        refine ⟨((lp_q (ha2 y0 hy0)).mp (z y0 hy0)).1, fun q hq => ?_⟩
        obtain ⟨w, hw, rfl⟩ := List.mem_map.mp (mem_srt.mp hq)
        exact ((lp_q (ha2 w hw)).mp (z w hw)).2
      · rintro ⟨z1, z2⟩ o ho
        exact (lp_q (ha2 o ho)).mpr ⟨z1, z2 _ (mem_srt.mpr (List.mem_map_of_mem (f := fun y => y / 4 % 100) ho))⟩
    have q0 : y0 / 4 % 100 ∈ srt (ys.map fun y => y / 4 % 100) := mem_srt.mpr (List.mem_map_of_mem (f := fun y => y / 4 % 100) hy0)
    rw [right]
    generalize y0 / 4 % 100 = w0 at q0
    generalize srt (ys.map fun y => y / 4 % 100) = qs at *
    have hM := fun (g : Int) (q : Int) (h : q ∈ nMem qs g) => (show 0 ≤ q ∧ q < 100 ∧ q % 25 = g from ⟨(hq q (mem_nMem.mp h).1).1, (hq q (mem_nMem.mp h).1).2, (mem_nMem.mp h).2⟩)
    have hP : ∀ g, (nMem qs g).Pairwise (· < ·) := fun g => hs.filter _
    have cc := fun g (hg : g ∈ rg25) => cho_cnd (r := r) (p := (y + r) / 4) (hM g) (hP g) (mem_rg25.mp hg).1 (mem_rg25.mp hg).2
    by_cases hl : (nFo r qs).length < 50
    · rw [if_pos hl]
      have w0b := hq w0 q0
      have gm : w0 % 25 ∈ rg25 := mem_rg25.mpr (by omega)
      have ne : ∃ o ∈ nCho r (w0 % 25) (nMem qs (w0 % 25)), True := by
        have m0 : w0 ∈ nMem qs (w0 % 25) := mem_nMem.mpr ⟨q0, rfl⟩
        unfold nCho
        split
        · exact ⟨_, List.mem_map_of_mem (f := fun q => r + 4 * q) m0, trivial⟩
        · exact ⟨r + 4 * (w0 % 25), by simp, trivial⟩
      constructor
      · intro z
        have zz : ∀ g ∈ rg25, ∀ o ∈ nCho r g (nMem qs g), lp (y + o) = true := fun g hg o ho => z o (List.mem_flatMap.mpr ⟨g, hg, ho⟩)
        obtain ⟨o, ho, _⟩ := ne
        obtain ⟨q, rfl⟩ := (cc _ gm).1 o ho
        refine ⟨((lp_4 r0 r1).mp (zz _ gm _ ho)).1, fun q hq2 => ?_⟩
        have qb := hq q hq2
        have gq : q % 25 ∈ rg25 := mem_rg25.mpr (by omega)
        exact (cc _ gq).2.mp (fun w hw => ((lp_4 r0 r1).mp (zz _ gq _ hw)).2) q (mem_nMem.mpr ⟨hq2, rfl⟩)
      · rintro ⟨z1, z2⟩ o ho
        obtain ⟨g, hg, ho⟩ := List.mem_flatMap.mp ho
        obtain ⟨q, rfl⟩ := (cc g hg).1 o ho
        exact (lp_4 r0 r1).mpr ⟨z1, (cc g hg).2.mpr (fun w hw => z2 w (mem_nMem.mp hw).1) q ho⟩
    · rw [if_neg hl]
      refine ⟨fun z => absurd z no01, fun z => ?_⟩
      exfalso
      obtain ⟨z1, z2⟩ := z
      have gm : (0 - (y + r) / 4) % 25 ∈ rg25 := mem_rg25.mpr (by omega)
      refine hl ?_
      have := flat_lt (f := fun g => nCho r g (nMem qs g)) (l := rg25) (fun g _ => nCho_le r g _) gm (by
        show (nCho r ((0 - (y + r) / 4) % 25) (nMem qs ((0 - (y + r) / 4) % 25))).length < 2
        unfold nCho
        by_cases c : (nMem qs ((0 - (y + r) / 4) % 25)).length < 2
        · rw [if_pos c, List.length_map]
          exact c
        · exfalso
          obtain ⟨a, b, ha, hb, ab⟩ := two_of (l := nMem qs ((0 - (y + r) / 4) % 25)) (by omega) (hP _)
          have a1 := hM _ a ha
          have b1 := hM _ b hb
          have a2 := z2 a (mem_nMem.mp ha).1
          have b2 := z2 b (mem_nMem.mp hb).1
          unfold cnd at a2 b2
          omega)
      exact this
  · rw [if_neg ha]
    refine ⟨fun z => absurd z no01, fun z => ?_⟩
    exfalso
    have : ∃ y1 ∈ ys, y1 % 4 ≠ r := Classical.byContradiction fun c => ha (List.all_eq_true.mpr fun o ho => decide_eq_true (Classical.byContradiction fun d => c ⟨o, ho, d⟩))
    obtain ⟨y1, hy1, hne⟩ := this
    have a := (lp_q hr).mp (z y0 hy0)
    have b := (lp_q (r := y1 % 4) rfl).mp (z y1 hy1)
    have a1 := a.1
    have b1 := b.1
    omega
theorem lY_lp {ys : List Int} (h : ys ≠ []) (y : Int) : (∀ o ∈ lY (lft ys), lp (y + o) = true) ↔ ∀ o ∈ ys, lp (y + o) = true := by
  obtain ⟨y0, hy0⟩ := List.exists_mem_of_ne_nil ys h
  have e : lY (lft ys) = nY (y0 % 4) ys := by
    rw [nY_eq (r := y0 % 4) (os := ys.map fun y => y % 400) ⟨y0, hy0, rfl⟩ fun k => ?_]
    · rw [lft_ext fun y => lp_os]
    · rw [List.mem_map]
      constructor
      · rintro ⟨w, hw, rfl⟩
        exact ⟨w, hw, rfl⟩
      · rintro ⟨w, hw, rfl⟩
        exact ⟨w, hw, rfl⟩
  rw [e]
  exact nY_lp ⟨y0, hy0, rfl⟩ y
theorem lY_ne {ys : List Int} (h : ys ≠ []) : lY (lft ys) ≠ [] := fun z => by
  obtain ⟨y0, hy0⟩ := List.exists_mem_of_ne_nil ys h
  have := (lY_lp h (1 - y0)).mp (fun o ho => by rw [z] at ho; cases ho) y0 hy0
  rw [show 1 - y0 + y0 = 1 by omega] at this
  exact absurd this (by decide)
theorem mem_nf {V : List Int} {r o : Int} (r0 : 0 ≤ r) (r1 : r < 12) : o ∈ yrs (nfL V) r ↔ yrs V r ≠ [] ∧ o ∈ lY (lft (yrs V r)) := by
  rw [mem_yrs r0 r1]
  unfold Mc.nfL
  rw [List.mem_flatMap]
  constructor
  · rintro ⟨r', hr', h⟩
    have hb := mem_rgN.mp hr'
    unfold nfR at h
    split at h
    · cases h
    · rename_i c
      obtain ⟨w, hw, e⟩ := List.mem_map.mp h
      have e2 : 12 * w + r' = 12 * o + r := e
      have e3 : r' = r := by omega
      have e4 : w = o := by omega
      subst e3 e4
      rw [lftR_eq] at hw
      exact ⟨c, hw⟩
  · rintro ⟨c, h⟩
    refine ⟨r, mem_rgN.mpr ⟨r0, r1⟩, ?_⟩
    unfold nfR
    rw [if_neg c, lftR_eq]
    exact List.mem_map_of_mem (f := fun y => 12 * y + r) h
/-- a normal form's visits are alike to those of its list -/
theorem nf_eqv (V : List Int) : Eqv (nfL V) V := by
  refine ⟨fun n => ?_, fun n => ?_⟩
  · rw [ef_yrs, ef_yrs]
    have m := fun o => mem_nf (V := V) (o := o) (r := (1 - n) % 12) (by omega) (by omega)
    constructor
    · intro h
      obtain ⟨o, ho⟩ := List.exists_mem_of_ne_nil _ h
      exact ((m o).mp ho).1
    · intro h z
      obtain ⟨o, ho⟩ := List.exists_mem_of_ne_nil _ (lY_ne h)
      have := (m o).mpr ⟨h, ho⟩
      rw [z] at this
      cases this
  · rw [pf_yrs, pf_yrs]
    have m := fun o => mem_nf (V := V) (o := o) (r := (1 - n) % 12) (by omega) (by omega)
    by_cases c : yrs V ((1 - n) % 12) = []
    · constructor
      · intro _ o ho
        rw [c] at ho
        cases ho
      · intro _ o ho
        exact absurd c ((m o).mp ho).1
    · rw [← lY_lp c]
      exact ⟨fun z o ho => z o ((m o).mpr ⟨c, ho⟩), fun z o ho => z o ((m o).mp ho).2⟩
/-! ### lists of steps -/
theorem nfS_eqv (ns : List Int) : Eqv (nfS ns) (sms ns) :=
  (Eqv.ext (m := nfL (srt (sms ns))) fun _ => mem_srtD).trans ((nf_eqv _).trans (Eqv.ext fun _ => mem_srt))
theorem nfS_iff {l m : List Int} : nfS l = nfS m ↔ Eqv (sms l) (sms m) := by
  constructor
  · intro h
    have a := nfS_eqv l
    rw [h] at a
    exact a.symm.trans (nfS_eqv m)
  · intro h
    have hs : Eqv (srt (sms l)) (srt (sms m)) := (Eqv.ext fun _ => mem_srt).trans (h.trans (Eqv.ext fun _ => mem_srt.symm))
    unfold nfS
    rw [hs.nfL]
theorem Eqv.add {l m : List Int} {a : Int} (h : Eqv l m) (ha : a ∈ m) : Eqv (a :: l) m :=
  (Eqv.app (Eqv.refl [a]) h).trans (Eqv.ext fun k => by
    rw [List.mem_append, List.mem_singleton]
    exact ⟨fun z => z.elim (fun e => e ▸ ha) id, .inr⟩)
theorem smF_app (l m : List Int) : ∀ x : Int, ∀ k, k ∈ smF x (l ++ m) ↔ k ∈ smF x l ∨ k ∈ (sms m).map fun v => x + l.sum + v := by
  induction l with
  | nil =>
    intro x k
    rw [List.nil_append, List.sum_nil, show x + 0 = x by omega]
    have z : ∀ (m : List Int) (a b : Int), smF (a + b) m = (smF b m).map fun v => a + v := fun m => by
      induction m with
      | nil => intro a b; rfl
      | cons n m ih =>
        intro a b
        rw [smF, smF, List.map_cons, show a + b + n = a + (b + n) by omega, ih]
    have e := z m x 0
    rw [show x + 0 = x by omega] at e
    rw [e]
    constructor
    · exact .inr
    · rintro (h | h)
      · rw [show smF x [] = [x] from rfl, List.mem_singleton] at h
        rw [h]
        exact List.mem_map.mpr ⟨0, smF_head m 0, by omega⟩
      · exact h
  | cons n l ih =>
    intro x k
    rw [List.cons_append, smF, smF, List.mem_cons, List.mem_cons, ih, List.sum_cons, show x + n + l.sum = x + (n + l.sum) by omega, or_assoc]
theorem sms_app (l m : List Int) (k : Int) : k ∈ sms (l ++ m) ↔ k ∈ sms l ++ (sms m).map fun v => l.sum + v := by
  have h := smF_app l m 0 k
  rw [show (0 : Int) + l.sum = l.sum by omega] at h
  rw [List.mem_append]
  exact h
/-- one after the other, each may be replaced -/
theorem nfS_app {l m l' m' : List Int} (h : nfS l = nfS m) (h' : nfS l' = nfS m') (e : l.sum = m.sum) : nfS (l ++ l') = nfS (m ++ m') := by
  rw [nfS_iff] at *
  refine (Eqv.ext (sms_app l l')).trans (Eqv.trans ?_ (Eqv.ext (sms_app m m')).symm)
  rw [e]
  exact h.app (h'.sh _)
/-- a list made of a normal form's visits, in any order, and its total -/
theorem nfS_made {ns X : List Int} (h : X.Perm (nfS ns)) : nfS (dif 0 (X ++ [ns.sum])) = nfS ns ∧ (dif 0 (X ++ [ns.sum])).sum = ns.sum := by
  have e : sms (dif 0 (X ++ [ns.sum])) = 0 :: (X ++ [ns.sum]) := smF_dif _ 0
  refine ⟨nfS_iff.mpr ?_, ?_⟩
  · rw [e]
    have a := ((nfS_eqv ns).add (a := ns.sum) (List.mem_of_getLast? (sms_last ns))).add (sms_zero ns)
    refine Eqv.trans (Eqv.ext fun k => ?_) a
    simp only [List.mem_cons, List.mem_append, List.not_mem_nil, or_false, h.mem_iff]
    constructor
    · rintro (z | z | z)
      · exact .inl z
      · exact .inr (.inr z)
      · exact .inr (.inl z)
    · rintro (z | z | z)
      · exact .inl z
      · exact .inr (.inr z)
      · exact .inr (.inl z)
  · have a := sms_last (dif 0 (X ++ [ns.sum]))
    rw [e, ← List.cons_append, List.getLast?_append] at a
    exact (Option.some.inj a).symm
/-! ### days -/
/-- the shortest of the months that are met -/
theorem lenN_cases (x : Int) : lenN x = 31 ∨ lenN x = 30 ∨ lenN x = 29 ∨ lenN x = 28 := by
  have := lenN_bd x
  omega
end Mc
/-! shortest lists visit what their list visits; days of alike lists; parting dates -/
namespace Mc
/-! ### days -/
theorem lp_leap (y : Int) : lp y = leap y := by
  unfold lp leap
  rw [Bool.eq_iff_iff]
  simp only [Bool.and_eq_true, Bool.or_eq_true, Bool.not_eq_true', decide_eq_true_eq, decide_eq_false_iff_not]
  omega
theorem feb_1 {n : Int} (h : n % 12 = 1) (l : lp (n / 12) = true) : lenN n = 29 := by
  have := lenN_feb h
  rw [lp_leap] at l
  rw [if_pos l] at this
  omega
theorem feb_0 {n : Int} (h : n % 12 = 1) (l : lp (n / 12) = false) : lenN n = 28 := by
  have := lenN_feb h
  rw [lp_leap] at l
  rw [if_neg (by rw [l]; decide)] at this
  omega
theorem oth {n : Int} (h : ¬ n % 12 = 1) : 30 ≤ lenN n := by
  have := lenN_oth h
  split at this <;> omega
theorem oth_eq {n m : Int} (h : ¬ n % 12 = 1) (e : n % 12 = m % 12) : lenN n = lenN m := by
  rw [← lenN_oth h, ← lenN_oth (n := m) (by omega), e]
theorem le_foldl_min {x : Int} : ∀ (l : List Int) (d : Int), x ≤ l.foldl min d ↔ x ≤ d ∧ ∀ a ∈ l, x ≤ a
  | [], d => by simp
  | a :: l, d => by
    rw [List.foldl_cons, le_foldl_min l]
    constructor
    · rintro ⟨h, g⟩
      refine ⟨by omega, fun b hb => ?_⟩
      rcases List.mem_cons.mp hb with rfl | hb
      · omega
      · exact g b hb
    · rintro ⟨h, g⟩
      have := g a (List.mem_cons_self ..)
      exact ⟨by omega, fun b hb => g b (List.mem_cons_of_mem _ hb)⟩
theorem le_day {x n d : Int} {vs : List Int} : x ≤ dayL n d vs ↔ x ≤ d ∧ ∀ v ∈ vs, x ≤ lenN (n + v) := by
  unfold dayL
  rw [le_foldl_min]
  constructor
  · rintro ⟨h, g⟩
    exact ⟨h, fun v hv => g _ (List.mem_map_of_mem hv)⟩
  · rintro ⟨h, g⟩
    refine ⟨h, fun a ha => ?_⟩
    obtain ⟨v, hv, rfl⟩ := List.mem_map.mp ha
    exact g v hv
theorem Eqv.res {l m : List Int} (h : Eqv l m) {v : Int} (hv : v ∈ l) : ∃ w ∈ m, w % 12 = v % 12 := by
  obtain ⟨w, hw, e⟩ := (h.e (1 - v)).mp ⟨v, hv, by omega⟩
  exact ⟨w, hw, by omega⟩
theorem Eqv.le {l m : List Int} (h : Eqv l m) {n x : Int} (g : ∀ v ∈ m, x ≤ lenN (n + v)) : ∀ v ∈ l, x ≤ lenN (n + v) := by
  intro v hv
  obtain ⟨w, hw, e⟩ := h.res hv
  have gw := g w hw
  by_cases c : (n + v) % 12 = 1
  · cases cl : lp ((n + v) / 12) with
    | true =>
      have a := feb_1 c cl
      have := lenN_feb (n := n + w) (by omega)
      split at this <;> omega
    | false =>
      have a := feb_0 c cl
      have np : ¬ Pf l n := fun z => by rw [z v hv c] at cl; cases cl
      rw [h.p] at np
      have : ∃ u ∈ m, (n + u) % 12 = 1 ∧ lp ((n + u) / 12) = false := Classical.byContradiction fun z => np fun u hu e => Bool.of_not_eq_false fun f => z ⟨u, hu, e, f⟩
      obtain ⟨u, hu, e1, e2⟩ := this
      have b := feb_0 e1 e2
      have := g u hu
      omega
  · rw [oth_eq (n := n + v) (m := n + w) c (by omega)]
    exact gw
/-- alike lists cut to the same day -/
theorem Eqv.day {l m : List Int} (h : Eqv l m) (n d : Int) : dayL n d l = dayL n d m := by
  have a : ∀ x, x ≤ dayL n d l ↔ x ≤ dayL n d m := fun x => by
    rw [le_day, le_day]
    exact ⟨fun z => ⟨z.1, h.symm.le z.2⟩, fun z => ⟨z.1, h.le z.2⟩⟩
  have b := (a (dayL n d l)).mp (Int.le_refl _)
  have c := (a (dayL n d m)).mpr (Int.le_refl _)
  omega
/-- lists of one effect lead every date to the same date -/
theorem mv_same {l m : List Int} (h : nfS l = nfS m) (e : l.sum = m.sum) {s : Dt} (hs : okS s) : mvL s l = mvL s m := by
  rw [mvL_eq hs, mvL_eq hs, e, (nfS_iff.mp h).day]
/-! ### parting dates -/
/-- the year of a February that two lists of years treat differently -/
def pFeb (ys os : List Int) : Option Int :=
  if ys = [] ∨ os = [] then (if ys = os then none else some 1)
  else ((lft ys).filter (fun y => !decide (y ∈ lft os)) ++ (lft os).filter (fun y => !decide (y ∈ lft ys))).head?
theorem pFeb_some {ys os : List Int} {y : Int} (h : pFeb ys os = some y) :
    (y = 1 ∧ ((ys = [] ∧ os ≠ []) ∨ (ys ≠ [] ∧ os = []))) ∨ (ys ≠ [] ∧ os ≠ [] ∧ ((y ∈ lft ys ∧ y ∉ lft os) ∨ (y ∈ lft os ∧ y ∉ lft ys))) := by
  unfold pFeb at h
  split at h
  · rename_i c
    split at h
    · cases h
    · rename_i d
      cases h
      refine .inl ⟨rfl, ?_⟩
      by_cases e : ys = []
      · exact .inl ⟨e, fun z => d (by rw [e, z])⟩
      · exact .inr ⟨e, c.resolve_left e⟩
  · rename_i c
    refine .inr ⟨fun z => c (.inl z), fun z => c (.inr z), ?_⟩
    have := List.mem_of_mem_head? h
    rcases List.mem_append.mp this with m | m
    · obtain ⟨m1, m2⟩ := List.mem_filter.mp m
      exact .inl ⟨m1, by simpa using m2⟩
    · obtain ⟨m1, m2⟩ := List.mem_filter.mp m
      exact .inr ⟨m1, by simpa using m2⟩
theorem pFeb_none {ys os : List Int} (h : pFeb ys os = none) : (ys = [] ↔ os = []) ∧ ∀ y, (∀ o ∈ ys, lp (y + o) = true) ↔ ∀ o ∈ os, lp (y + o) = true := by
  unfold pFeb at h
  split at h
  · rename_i c
    split at h
    · rename_i d
      rw [d]
      exact ⟨Iff.rfl, fun _ => Iff.rfl⟩
    · cases h
  · rename_i c
    refine ⟨⟨fun z => absurd (.inl z) c, fun z => absurd (.inr z) c⟩, fun y => ?_⟩
    rw [← mem_lft, ← mem_lft]
    rw [List.head?_eq_none_iff, List.append_eq_nil_iff, List.filter_eq_nil_iff, List.filter_eq_nil_iff] at h
    constructor
    · intro z
      have := h.1 _ z
      simpa using this
    · intro z
      have := h.2 _ z
      simpa using this
theorem lenN_mod (x : Int) : lenN (x % 4800) = lenN x := by
  have := lenN_cyc (x % 4800) (x / 4800)
  rw [show x % 4800 + 4800 * (x / 4800) = x by omega] at this
  exact this.symm
/-- the distance and the year found part the lists -/
theorem part_1 {V W : List Int} {d y : Int} (d0 : 0 ≤ d) (d1 : d < 12) (hV : 0 ∈ V) (hW : 0 ∈ W) (h : y = 1 ∧ yrs V d = [] ∧ yrs W d ≠ []) :
    dayL ((12 * y + 1 - d) % 4800) (lenN ((12 * y + 1 - d) % 4800)) V ≠ dayL ((12 * y + 1 - d) % 4800) (lenN ((12 * y + 1 - d) % 4800)) W := by
  obtain ⟨rfl, h1, h2⟩ := h
  have dn : d ≠ 0 := fun z => by
    rw [z] at h1
    exact yrs_some (r := 0) hV rfl h1
  intro e
  obtain ⟨o, ho⟩ := List.exists_mem_of_ne_nil _ h2
  have hm := (mem_yrs d0 d1).mp ho
  have a : (30 : Int) ≤ dayL ((12 * 1 + 1 - d) % 4800) (lenN ((12 * 1 + 1 - d) % 4800)) V := le_day.mpr ⟨oth (by omega), fun v hv => oth fun z => by
    exact yrs_some (r := d) hv (by omega) h1⟩
  rw [e] at a
  have b := (le_day.mp a).2 _ hm
  have := lenN_feb (n := (12 * 1 + 1 - d) % 4800 + (12 * o + d)) (by omega)
  split at this <;> omega
theorem part_2 {V W : List Int} {d y : Int} (d0 : 0 ≤ d) (d1 : d < 12) (hV : 0 ∈ V) (hW : 0 ∈ W) (h : y ∈ lft (yrs V d) ∧ y ∉ lft (yrs W d)) :
    dayL ((12 * y + 1 - d) % 4800) (lenN ((12 * y + 1 - d) % 4800)) V ≠ dayL ((12 * y + 1 - d) % 4800) (lenN ((12 * y + 1 - d) % 4800)) W := by
  obtain ⟨h1, h2⟩ := h
  have yb : 0 ≤ y ∧ y < 400 := mem_rg400.mp (List.mem_filter.mp h1).1
  have ym : y % 400 = y := by omega
  rw [← ym] at h1 h2
  rw [mem_lft] at h1 h2
  have : ∃ o ∈ yrs W d, lp (y + o) = false := Classical.byContradiction fun z => h2 fun o ho => Bool.of_not_eq_false fun f => z ⟨o, ho, f⟩
  obtain ⟨o, ho, fo⟩ := this
  have hm := (mem_yrs d0 d1).mp ho
  have key : ∀ v, ((12 * y + 1 - d) % 4800 + v) % 12 = 1 → lenN ((12 * y + 1 - d) % 4800 + v) = lenN (12 * (y + (v - d) / 12) + 1) ∧ v = 12 * ((v - d) / 12) + d := fun v hv => by
    have e : v = 12 * ((v - d) / 12) + d := by omega
    refine ⟨?_, e⟩
    rw [← lenN_mod, ← lenN_mod (12 * (y + (v - d) / 12) + 1)]
    congr 1
    omega
  intro e
  have a : (29 : Int) ≤ dayL ((12 * y + 1 - d) % 4800) (lenN ((12 * y + 1 - d) % 4800)) V := le_day.mpr ⟨?_, fun v hv => ?_⟩
  · rw [e] at a
    have b := (le_day.mp a).2 _ hm
    rw [(key (12 * o + d) (by omega)).1, show (12 * o + d - d) / 12 = o by omega] at b
    have := feb_0 (n := 12 * (y + o) + 1) (by omega) (by rw [show (12 * (y + o) + 1) / 12 = y + o by omega]; exact fo)
    omega
  · by_cases c : d = 0
    · subst c
      have z := h1 0 ((mem_yrs (by omega) (by omega)).mpr (by simpa using hV))
      have k := key 0 (by omega)
      rw [show (12 * y + 1 - 0) % 4800 + 0 = (12 * y + 1 - 0) % 4800 by omega] at k
      have w := feb_1 (n := 12 * (y + 0) + 1) (by omega) (by rw [show (12 * (y + 0) + 1) / 12 = y + 0 by omega]; exact z)
      rw [k.1, show ((0 : Int) - 0) / 12 = 0 by omega]
      omega
    · have := oth (n := (12 * y + 1 - d) % 4800) (by omega)
      omega
  · by_cases c : ((12 * y + 1 - d) % 4800 + v) % 12 = 1
    · obtain ⟨k1, k2⟩ := key v c
      have z := h1 ((v - d) / 12) ((mem_yrs d0 d1).mpr (by rw [← k2]; exact hv))
      have w := feb_1 (n := 12 * (y + (v - d) / 12) + 1) (by omega) (by rw [show (12 * (y + (v - d) / 12) + 1) / 12 = y + (v - d) / 12 by omega]; exact z)
      omega
    · have := oth c
      omega
theorem part_some {V W : List Int} {d y : Int} (d0 : 0 ≤ d) (d1 : d < 12) (hV : 0 ∈ V) (hW : 0 ∈ W) (h : pFeb (yrs V d) (yrs W d) = some y) :
    dayL ((12 * y + 1 - d) % 4800) (lenN ((12 * y + 1 - d) % 4800)) V ≠ dayL ((12 * y + 1 - d) % 4800) (lenN ((12 * y + 1 - d) % 4800)) W := by
  rcases pFeb_some h with ⟨z, (⟨a, b⟩ | ⟨a, b⟩)⟩ | ⟨_, _, (z | z)⟩
  · exact part_1 d0 d1 hV hW ⟨z, a, b⟩
  · exact (part_1 d0 d1 hW hV ⟨z, b, a⟩).symm
  · exact part_2 d0 d1 hV hW z
  · exact (part_2 d0 d1 hW hV z).symm
theorem part_none {V W : List Int} (h : ∀ d : Int, 0 ≤ d → d < 12 → pFeb (yrs V d) (yrs W d) = none) : Eqv V W := ⟨fun n => by
  rw [ef_yrs, ef_yrs]
  exact not_congr (pFeb_none (h ((1 - n) % 12) (by omega) (by omega))).1, fun n => by
  rw [pf_yrs, pf_yrs]
  exact (pFeb_none (h ((1 - n) % 12) (by omega) (by omega))).2 _⟩
/-! ### shortest lists -/
def missC (w P : List Int) : List Int := if w.length ≤ (srt (P.map fun y => y / 4 % 100)).length then [] else if P = [] then w else [P.headD 0 + 100]
def cls (l : List Int) (g : Int) : List Int := l.filter fun y => decide (y / 4 % 25 = g)
def missF (w P : List Int) : List Int := rg25.flatMap fun g => missC (cls w g) (cls P g)
def missY (w P : List Int) : List Int := if w = [0, 1] then (if P = [] then [0, 1] else if (P.all fun y => decide ((y - P.headD 0) % 4 = 0)) = true then [P.headD 0 + 1] else []) else missF w P
theorem mem_cls {l : List Int} {g o : Int} : o ∈ cls l g ↔ o ∈ l ∧ o / 4 % 25 = g := by
  unfold cls
  rw [List.mem_filter, decide_eq_true_eq]
theorem missC_lp {r g : Int} {w P : List Int} (hP : ∀ o ∈ P, o % 4 = r ∧ o / 4 % 25 = g)
    (h : (w = [] ∧ P = []) ∨ (∃ a, w = [a] ∧ a % 4 = r ∧ ∀ o ∈ P, o / 4 % 100 = a / 4 % 100) ∨ ∃ a b, w = [a, b] ∧ a % 4 = r ∧ b % 4 = r ∧ a / 4 % 25 = g ∧ b / 4 % 25 = g ∧ a / 4 % 100 ≠ b / 4 % 100) (y : Int) :
    (∀ o ∈ missC w P ++ P, lp (y + o) = true) ↔ ∀ o ∈ w, lp (y + o) = true := by
  by_cases pn : P = []
  · subst pn
    have e : missC w [] = w := by
      unfold missC
      by_cases c : w.length ≤ (srt (([] : List Int).map fun y => y / 4 % 100)).length
      · rw [if_pos c]
        exact (List.eq_nil_of_length_eq_zero (Nat.le_zero.mp c)).symm
      · rw [if_neg c, if_pos rfl]
    rw [e, List.append_nil]
  · obtain ⟨p, hp⟩ := List.exists_mem_of_ne_nil _ pn
    have ms : p / 4 % 100 ∈ srt (P.map fun y => y / 4 % 100) := mem_srt.mpr (List.mem_map_of_mem (f := fun y => y / 4 % 100) hp)
    have l1 : 1 ≤ (srt (P.map fun y => y / 4 % 100)).length := List.length_pos_of_mem ms
    rcases h with ⟨rfl, z⟩ | ⟨a, rfl, ar, ha⟩ | ⟨a, b, rfl, ar, br, ag, bg, ab⟩
    · exact absurd z pn
    · have e : missC [a] P = [] := by
        unfold missC
        exact if_pos l1
      rw [e, List.nil_append]
      constructor
      · intro z o ho
        rw [List.mem_singleton.mp ho]
        have := (lp_q (hP p hp).1).mp (z p hp)
        rw [ha p hp] at this
        exact (lp_q ar).mpr this
      · intro z o ho
        have := (lp_q ar).mp (z a (by simp))
        rw [← ha o ho] at this
        exact (lp_q (hP o ho).1).mpr this
    · -- two years of one class
      have two : ∀ c d : Int, c % 4 = r → d % 4 = r → c / 4 % 25 = g → d / 4 % 25 = g → c / 4 % 100 ≠ d / 4 % 100 → ((lp (y + c) = true ∧ lp (y + d) = true) ↔ ((y + r) % 4 = 0 ∧ ((y + r) / 4 + g) % 25 ≠ 0)) := fun c d cr dr cg dg cd => by
        rw [lp_q cr, lp_q dr]
        unfold cnd
        constructor
        · rintro ⟨⟨z1, z2⟩, _, z3⟩
          refine ⟨z1, ?_⟩
          omega
        · rintro ⟨z1, z2⟩
          refine ⟨⟨z1, .inl ?_⟩, z1, .inl ?_⟩ <;> omega
      have one : ∀ c : Int, c % 4 = r → c / 4 % 25 = g → ((y + r) % 4 = 0 ∧ ((y + r) / 4 + g) % 25 ≠ 0) → lp (y + c) = true := fun c cr cg z => by
        rw [lp_q cr]
        refine ⟨z.1, .inl ?_⟩
        have := z.2
        omega
      have right : (∀ o ∈ [a, b], lp (y + o) = true) ↔ ((y + r) % 4 = 0 ∧ ((y + r) / 4 + g) % 25 ≠ 0) := by
        rw [← two a b ar br ag bg ab]
        simp
      rw [right]
      by_cases c : 2 ≤ (srt (P.map fun y => y / 4 % 100)).length
      · have e : missC [a, b] P = [] := by
          unfold missC
          exact if_pos c
        rw [e, List.nil_append]
        obtain ⟨q1, q2, m1, m2, lt⟩ := two_of c (pw_srt _)
        obtain ⟨p1, hp1, rfl⟩ := List.mem_map.mp (mem_srt.mp m1)
        obtain ⟨p2, hp2, rfl⟩ := List.mem_map.mp (mem_srt.mp m2)
        constructor
        · intro z
          exact (two p1 p2 (hP p1 hp1).1 (hP p2 hp2).1 (hP p1 hp1).2 (hP p2 hp2).2 (by have lt2 : p1 / 4 % 100 < p2 / 4 % 100 := lt; omega)).mp ⟨z p1 hp1, z p2 hp2⟩
        · intro z o ho
          exact one o (hP o ho).1 (hP o ho).2 z
      · have e : missC [a, b] P = [P.headD 0 + 100] := by
          unfold missC
          exact (if_neg c).trans (if_neg pn)
        have hh : P.headD 0 ∈ P := by
          cases P with
          | nil => exact absurd rfl pn
          | cons x P => exact List.mem_cons_self ..
        rw [e]
        have h1 := hP _ hh
        generalize P.headD 0 = x at *
        constructor
        · intro z
          exact (two x (x + 100) h1.1 (by omega) h1.2 (by omega) (by omega)).mp ⟨z x (List.mem_append_right _ hh), z (x + 100) (List.mem_append_left _ (List.mem_singleton_self _))⟩
        · intro z o ho
          rcases List.mem_append.mp ho with ho | ho
          · rw [List.mem_singleton.mp ho]
            exact one _ (by omega) (by omega) z
          · exact one o (hP o ho).1 (hP o ho).2 z
theorem no_01 {o p : Int} (h : o % 4 ≠ p % 4) (y : Int) : ¬ (lp (y + o) = true ∧ lp (y + p) = true) := fun z => by
  have a := (lp_q (r := o % 4) rfl).mp z.1
  have b := (lp_q (r := p % 4) rfl).mp z.2
  have a1 := a.1
  have b1 := b.1
  omega
theorem cls_fo {r g : Int} {qs : List Int} (r0 : 0 ≤ r) (r1 : r < 4) (hg : g ∈ rg25) : cls (nFo r qs) g = nCho r g (nMem qs g) := by
  have z : ∀ l : List Int, (∀ h ∈ l, h ∈ rg25) → l.Nodup → (l.flatMap fun h => nCho r h (nMem qs h)).filter (fun y => decide (y / 4 % 25 = g)) = if g ∈ l then nCho r g (nMem qs g) else [] := fun l => by
    induction l with
    | nil => intro _ _; rfl
    | cons h l ih =>
      intro hl nd
      rw [List.flatMap_cons, List.filter_append, ih (fun x hx => hl x (List.mem_cons_of_mem _ hx)) (List.nodup_cons.mp nd).2]
      have hb := mem_rg25.mp (hl h (List.mem_cons_self ..))
      have each : ∀ o ∈ nCho r h (nMem qs h), o / 4 % 25 = h := fun o ho => by
        unfold nCho at ho
        split at ho
        · obtain ⟨q, hq, rfl⟩ := List.mem_map.mp ho
          have := (mem_nMem.mp hq).2
          show (r + 4 * q) / 4 % 25 = h
          omega
        · simp only [List.map_cons, List.map_nil, List.mem_cons, List.not_mem_nil, or_false] at ho
          omega
      by_cases c : g = h
      · subst c
        rw [if_pos (List.mem_cons_self ..), if_neg (List.nodup_cons.mp nd).1, List.append_nil, List.filter_eq_self]
        exact fun o ho => decide_eq_true (each o ho)
      · have e : (nCho r h (nMem qs h)).filter (fun y => decide (y / 4 % 25 = g)) = [] := List.filter_eq_nil_iff.mpr fun o ho => by
          rw [each o ho, decide_eq_true_eq]
          exact fun w => c w.symm
        rw [e, List.nil_append]
        by_cases d : g ∈ l
        · rw [if_pos d, if_pos (List.mem_cons_of_mem _ d)]
        · rw [if_neg d, if_neg (fun w => (List.mem_cons.mp w).elim c d)]
  have e := z rg25 (fun _ h => h) (by decide)
  rw [if_pos hg] at e
  exact e
/-- with the years that are missing, the years at hand leave what is wanted -/
theorem missY_lp {r : Int} {ys P : List Int} (hr : ∃ y ∈ ys, y % 4 = r) (hP : ∀ o ∈ P, o ∈ ys) (y : Int) : (∀ o ∈ missY (nY r ys) P ++ P, lp (y + o) = true) ↔ ∀ o ∈ nY r ys, lp (y + o) = true := by
  unfold missY
  by_cases c : nY r ys = [0, 1]
  · rw [if_pos c, c]
    have right : ¬ ∀ o ∈ ([0, 1] : List Int), lp (y + o) = true := fun z => no_01 (o := 0) (p := 1) (by decide) y ⟨z 0 (by simp), z 1 (by simp)⟩
    refine iff_of_false (fun z => ?_) right
    by_cases pn : P = []
    · rw [if_pos pn] at z
      exact right fun o ho => z o (List.mem_append_left _ ho)
    · rw [if_neg pn] at z
      have hh : P.headD 0 ∈ P := by
        cases P with
        | nil => exact absurd rfl pn
        | cons x P => exact List.mem_cons_self ..
      by_cases d : (P.all fun y => decide ((y - P.headD 0) % 4 = 0)) = true
      · rw [if_pos d] at z
        exact no_01 (o := P.headD 0) (p := P.headD 0 + 1) (by omega) y ⟨z _ (List.mem_append_right _ hh), z _ (List.mem_append_left _ (List.mem_singleton_self _))⟩
      · have : ∃ o ∈ P, (o - P.headD 0) % 4 ≠ 0 := Classical.byContradiction fun w => d (List.all_eq_true.mpr fun o ho => decide_eq_true (Classical.byContradiction fun v => w ⟨o, ho, v⟩))
        obtain ⟨o, ho, ne⟩ := this
        exact no_01 (o := o) (p := P.headD 0) (by omega) y ⟨z _ (List.mem_append_right _ ho), z _ (List.mem_append_right _ hh)⟩
  · rw [if_neg c]
    obtain ⟨y0, hy0, hr⟩ := hr
    have r0 : 0 ≤ r := by omega
    have r1 : r < 4 := by omega
    have e : (ys.all fun y => decide (y % 4 = r)) = true ∧ nY r ys = nFo r (srt (ys.map fun y => y / 4 % 100)) := by
      unfold nY at c ⊢
      by_cases ha : (ys.all fun y => decide (y % 4 = r)) = true
      · rw [if_pos ha] at c ⊢
        by_cases hl : (nFo r (srt (ys.map fun y => y / 4 % 100))).length < 50
        · rw [if_pos hl] at c ⊢
          exact ⟨ha, rfl⟩
        · rw [if_neg hl] at c
          exact absurd rfl c
      · rw [if_neg ha] at c
        exact absurd rfl c
    obtain ⟨ha, e⟩ := e
    rw [e]
    have ha2 : ∀ o ∈ ys, o % 4 = r := fun o ho => of_decide_eq_true (List.all_eq_true.mp ha o ho)
    have hq : ∀ q ∈ srt (ys.map fun y => y / 4 % 100), 0 ≤ q ∧ q < 100 := fun q h => by
      obtain ⟨w, _, rfl⟩ := List.mem_map.mp (mem_srt.mp h)
      show 0 ≤ w / 4 % 100 ∧ w / 4 % 100 < 100
      omega
    have hin : ∀ o ∈ P, o / 4 % 100 ∈ srt (ys.map fun y => y / 4 % 100) := fun o ho => mem_srt.mpr (List.mem_map_of_mem (f := fun y => y / 4 % 100) (hP o ho))
    have hs := pw_srt (ys.map fun y => y / 4 % 100)
    generalize srt (ys.map fun y => y / 4 % 100) = qs at *
    have each : ∀ g ∈ rg25, ((∀ o ∈ missC (cls (nFo r qs) g) (cls P g) ++ cls P g, lp (y + o) = true) ↔ ∀ o ∈ cls (nFo r qs) g, lp (y + o) = true) := fun g hg => by
      have gb := mem_rg25.mp hg
      refine missC_lp (r := r) (g := g) (fun o ho => ⟨ha2 o (hP o (mem_cls.mp ho).1), (mem_cls.mp ho).2⟩) ?_ y
      rw [cls_fo r0 r1 hg]
      have pin : ∀ o ∈ cls P g, o / 4 % 100 ∈ nMem qs g := fun o ho => mem_nMem.mpr ⟨hin o (mem_cls.mp ho).1, by have := (mem_cls.mp ho).2; omega⟩
      have mb : ∀ q ∈ nMem qs g, 0 ≤ q ∧ q < 100 ∧ q % 25 = g := fun q h => ⟨(hq q (mem_nMem.mp h).1).1, (hq q (mem_nMem.mp h).1).2, (mem_nMem.mp h).2⟩
      generalize nMem qs g = M at *
      unfold nCho
      by_cases l : M.length < 2
      · rw [if_pos l]
        match M, l, pin, mb with
        | [], _, pin, _ => exact .inl ⟨rfl, List.eq_nil_iff_forall_not_mem.mpr fun o ho => by cases pin o ho⟩
        | [q], _, pin, mb =>
          have b := mb q (List.mem_singleton_self _)
          exact .inr (.inl ⟨r + 4 * q, rfl, by omega, fun o ho => by rw [List.mem_singleton.mp (pin o ho)]; omega⟩)
      · rw [if_neg l]
        exact .inr (.inr ⟨r + 4 * g, r + 4 * (g + 25), rfl, by omega, by omega, by omega, by omega, by omega⟩)
    constructor
    · intro z o ho
      obtain ⟨g, hg, h⟩ := List.mem_flatMap.mp ho
      rw [← cls_fo r0 r1 hg] at h
      refine (each g hg).mp (fun p hp => ?_) o h
      rcases List.mem_append.mp hp with hp | hp
      · exact z p (List.mem_append_left _ (List.mem_flatMap.mpr ⟨g, hg, hp⟩))
      · exact z p (List.mem_append_right _ (mem_cls.mp hp).1)
    · intro z p hp
      have all : ∀ g ∈ rg25, ∀ o ∈ missC (cls (nFo r qs) g) (cls P g) ++ cls P g, lp (y + o) = true := fun g hg => (each g hg).mpr fun o ho => z o (mem_cls.mp ho).1
      rcases List.mem_append.mp hp with hp | hp
      · obtain ⟨g, hg, h⟩ := List.mem_flatMap.mp hp
        exact all g hg p (List.mem_append_left _ h)
      · have gb : p / 4 % 25 ∈ rg25 := mem_rg25.mpr (by omega)
        exact all _ gb p (List.mem_append_right _ (mem_cls.mpr ⟨hp, rfl⟩))
theorem missY_ne {w : List Int} (h : w ≠ []) (hw : w = [0, 1] ∨ ∃ r, ∃ qs : List Int, 0 ≤ r ∧ r < 4 ∧ w = nFo r qs) : missY w [] ≠ [] := by
  unfold missY
  by_cases c : w = [0, 1]
  · rw [if_pos c, if_pos rfl]
    simp
  · rw [if_neg c]
    obtain ⟨r, qs, r0, r1, rfl⟩ := hw.resolve_left c
    obtain ⟨o, ho⟩ := List.exists_mem_of_ne_nil _ h
    obtain ⟨g, hg, hm⟩ := List.mem_flatMap.mp ho
    refine List.ne_nil_of_mem (a := o) (List.mem_flatMap.mpr ⟨g, hg, ?_⟩)
    show o ∈ missC (cls (nFo r qs) g) (cls [] g)
    rw [cls_fo r0 r1 hg]
    unfold missC
    have : ¬ (nCho r g (nMem qs g)).length ≤ (srt ((cls [] g).map fun y => y / 4 % 100)).length := fun z => by
      have := List.length_pos_of_mem hm
      have e : (srt ((cls [] g).map fun y => y / 4 % 100)).length = 0 := rfl
      omega
    rw [if_neg this]
    exact hm
/-- the missing visits of one distance -/
def shG (T : Int) (r : Int) (ys : List Int) : List Int := (missY (nY (ys.headD 0 % 4) ys) (yrs [0, T] r)).map fun y => 12 * y + r
def shP (T : Int) (gs : List (Int × List Int)) : List Int := gs.flatMap fun g => shG T g.1 g.2
def shL (T : Int) (gs : List (Int × List Int)) : List Int := if T = 0 ∧ shP T gs = [] then [] else dif 0 (srtD (shP T gs) ++ [T])
theorem nY_kind (r : Int) (ys : List Int) (r0 : 0 ≤ r) (r1 : r < 4) : nY r ys = [0, 1] ∨ ∃ s, ∃ qs : List Int, 0 ≤ s ∧ s < 4 ∧ nY r ys = nFo s qs := by
  have z : nY r ys = [0, 1] ∨ nY r ys = nFo r (srt (ys.map fun y => y / 4 % 100)) := by
    unfold nY
    split
    · split
      · exact .inr rfl
      · exact .inl rfl
    · exact .inl rfl
  exact z.imp id fun e => ⟨r, _, r0, r1, e⟩
theorem nY_nil {r : Int} {ys : List Int} (h : ∃ y ∈ ys, y % 4 = r) : nY r ys ≠ [] := fun z => by
  have e := nY_eq (r := r) (ys := ys) (os := ys.map fun y => y % 400) h fun k => by
    rw [List.mem_map]
    exact ⟨fun ⟨w, hw, e⟩ => ⟨w, hw, e.symm⟩, fun ⟨w, hw, e⟩ => ⟨w, hw, e.symm⟩⟩
  obtain ⟨y0, hy0, _⟩ := h
  rw [z, lft_ext fun y => lp_os] at e
  exact lY_ne (List.ne_nil_of_mem hy0) e.symm
theorem yrs_app (l m : List Int) (r : Int) : yrs (l ++ m) r = yrs l r ++ yrs m r := by
  unfold yrs
  rw [List.filter_append, List.map_append]
theorem headD_mem {ys : List Int} (h : ys ≠ []) : ys.headD 0 ∈ ys := by
  cases ys with
  | nil => exact absurd rfl h
  | cons x ys => exact List.mem_cons_self ..
theorem mem_shP {T k : Int} {gs : List (Int × List Int)} {V : List Int} (G : Grp gs V) {r o : Int} (r0 : 0 ≤ r) (r1 : r < 12) : o ∈ yrs (shP T gs) r ↔ yrs V r ≠ [] ∧ o ∈ missY (nY ((yrs V r).headD 0 % 4) (yrs V r)) (yrs [0, T] r) := by
  rw [mem_yrs r0 r1]
  unfold shP
  rw [List.mem_flatMap]
  constructor
  · rintro ⟨g, hg, h⟩
    obtain ⟨g0, g1, ge, gne⟩ := G.is g hg
    unfold shG at h
    obtain ⟨w, hw, e⟩ := List.mem_map.mp h
    have e2 : 12 * w + g.1 = 12 * o + r := e
    have e3 : g.1 = r := by omega
    have e4 : w = o := by omega
    rw [e4, ge, e3] at hw
    exact ⟨by rw [← e3, ← ge]; exact gne, hw⟩
  · rintro ⟨c, h⟩
    obtain ⟨y, hy⟩ := List.exists_mem_of_ne_nil _ c
    have hm := (mem_yrs r0 r1).mp hy
    obtain ⟨g, hg, e⟩ := G.all _ hm
    have e2 : g.1 = r := by omega
    obtain ⟨g0, g1, ge, gne⟩ := G.is g hg
    refine ⟨g, hg, ?_⟩
    unfold shG
    rw [ge, e2]
    exact List.mem_map_of_mem (f := fun y => 12 * y + r) h
/-- the visits of a shortest list are alike to those of its list -/
theorem sh_eqv {T : Int} {gs : List (Int × List Int)} {V : List Int} (G : Grp gs V) (h0 : 0 ∈ V) (hT : T ∈ V) : Eqv (shP T gs ++ [0, T]) V := by
  have pin : ∀ r : Int, 0 ≤ r → r < 12 → ∀ o ∈ yrs [0, T] r, o ∈ yrs V r := fun r r0 r1 o ho => by
    rw [mem_yrs r0 r1] at ho ⊢
    simp only [List.mem_cons, List.not_mem_nil, or_false] at ho
    rcases ho with e | e
    · rw [e]; exact h0
    · rw [e]; exact hT
  refine ⟨fun n => ?_, fun n => ?_⟩
  · rw [ef_yrs, ef_yrs]
    have r0 : 0 ≤ (1 - n) % 12 := by omega
    have r1 : (1 - n) % 12 < 12 := by omega
    generalize (1 - n) % 12 = r at *
    have m := fun o => mem_shP (T := T) (k := 0) G (o := o) r0 r1
    rw [yrs_app]
    constructor
    · intro h
      obtain ⟨o, ho⟩ := List.exists_mem_of_ne_nil _ h
      rcases List.mem_append.mp ho with ho | ho
      · exact ((m o).mp ho).1
      · exact List.ne_nil_of_mem (pin r r0 r1 o ho)
    · intro h z
      obtain ⟨z1, z2⟩ := List.append_eq_nil_iff.mp z
      have ne := missY_ne (nY_nil (ys := yrs V r) (r := (yrs V r).headD 0 % 4) ⟨_, headD_mem h, rfl⟩) (nY_kind ((yrs V r).headD 0 % 4) (yrs V r) (Int.emod_nonneg _ (by decide)) (Int.emod_lt_of_pos _ (by decide)))
      obtain ⟨o, ho⟩ := List.exists_mem_of_ne_nil _ ne
      have := (m o).mpr ⟨h, by rw [z2]; exact ho⟩
      rw [z1] at this
      cases this
  · rw [pf_yrs, pf_yrs]
    have r0 : 0 ≤ (1 - n) % 12 := by omega
    have r1 : (1 - n) % 12 < 12 := by omega
    generalize (n + (1 - n) % 12) / 12 = y
    generalize (1 - n) % 12 = r at *
    have m := fun o => mem_shP (T := T) (k := 0) G (o := o) r0 r1
    rw [yrs_app]
    by_cases c : yrs V r = []
    · constructor
      · intro _ o ho
        rw [c] at ho
        cases ho
      · intro _ o ho
        rcases List.mem_append.mp ho with ho | ho
        · exact absurd c ((m o).mp ho).1
        · have := pin r r0 r1 o ho
          rw [c] at this
          cases this
    · have hh := headD_mem c
      rw [← nY_lp (r := (yrs V r).headD 0 % 4) ⟨_, hh, rfl⟩, ← missY_lp (r := (yrs V r).headD 0 % 4) (ys := yrs V r) ⟨_, hh, rfl⟩ (pin r r0 r1)]
      constructor
      · intro z o ho
        rcases List.mem_append.mp ho with ho | ho
        · exact z o (List.mem_append_left _ ((m o).mpr ⟨c, ho⟩))
        · exact z o (List.mem_append_right _ ho)
      · intro z o ho
        rcases List.mem_append.mp ho with ho | ho
        · exact z o (List.mem_append_left _ ((m o).mp ho).2)
        · exact z o (List.mem_append_right _ ho)
/-- a shortest list has the effect of its list -/
theorem sh_nfS {gs : List (Int × List Int)} {ns : List Int} (G : Grp gs (srt (sms ns))) : nfS (shL ns.sum gs) = nfS ns ∧ (shL ns.sum gs).sum = ns.sum := by
  have e := (sh_eqv (T := ns.sum) G (mem_srt.mpr (sms_zero ns)) (mem_srt.mpr (List.mem_of_getLast? (sms_last ns)))).trans (Eqv.ext fun _ => mem_srt)
  unfold shL
  by_cases c : ns.sum = 0 ∧ shP ns.sum gs = []
  · rw [if_pos c]
    refine ⟨nfS_iff.mpr (Eqv.trans (Eqv.ext fun k => ?_) e), ?_⟩
    · rw [c.2, c.1]
      show k ∈ [0] ↔ _
      simp
    · rw [c.1]
      rfl
  · rw [if_neg c]
    have d : sms (dif 0 (srtD (shP ns.sum gs) ++ [ns.sum])) = 0 :: (srtD (shP ns.sum gs) ++ [ns.sum]) := smF_dif _ 0
    refine ⟨nfS_iff.mpr (Eqv.trans (Eqv.ext fun k => ?_) e), ?_⟩
    · rw [d]
      simp only [List.mem_cons, List.mem_append, List.not_mem_nil, or_false, mem_srtD]
      constructor
      · rintro (z | z | z)
        · exact .inr (.inl z)
        · exact .inl z
        · exact .inr (.inr z)
      · rintro (z | z | z)
        · exact .inr (.inl z)
        · exact .inl z
        · exact .inr (.inr z)
    · have a := sms_last (dif 0 (srtD (shP ns.sum gs) ++ [ns.sum]))
      rw [d, ← List.cons_append, List.getLast?_append] at a
      exact (Option.some.inj a).symm
theorem missC_le {w P : List Int} : (missC w P).length ≤ w.length := by
  unfold missC
  split
  · exact Nat.zero_le _
  · split
    · exact Nat.le_refl _
    · rename_i h _
      show 1 ≤ _
      omega
end Mc
/-! readings for shortest lists and parting dates: data compared that may differ, lists turned round -/
namespace Mc
open PySem PySem.Spec PyProof.Rows L2
theorem eqv_date (s t : Dt) : PyData.eqv (dD s) (dD t) = decide (s = t) := by
  have e : PyData.eqv (dD s) (dD t) = (decide (s.1 / 12 = t.1 / 12) && (decide (s.1 % 12 + 1 = t.1 % 12 + 1) && decide (s.2 = t.2))) := by
    unfold dD
    simp only [PyData.eqv, PyData.eqvAll, Bool.and_true]
    rfl
  rw [e]
  by_cases h : s = t
  · subst h
    simp
  · rw [decide_eq_false h]
    by_cases h1 : s.1 / 12 = t.1 / 12
    · by_cases h2 : s.1 % 12 + 1 = t.1 % 12 + 1
      · by_cases h3 : s.2 = t.2
        · exact absurd (Prod.ext (by omega) h3) h
        · simp [h3]
      · simp [h2]
    · simp [h1]
theorem eqvA_ints : ∀ ns ms : List Int, PyData.eqvAll (ns.map PyData.int) (ms.map PyData.int) = decide (ns = ms)
  | [], [] => rfl
  | [], _ :: _ => rfl
  | _ :: _, [] => rfl
  | n :: ns, m :: ms => by
    have ih := eqvA_ints ns ms
    rw [List.map_cons, List.map_cons]
    have e : PyData.eqvAll (.int n :: ns.map PyData.int) (.int m :: ms.map PyData.int) = (decide (n = m) && PyData.eqvAll (ns.map PyData.int) (ms.map PyData.int)) := by
      simp only [PyData.eqvAll, PyData.eqv]
      rfl
    rw [e, ih]
    by_cases h1 : n = m
    · by_cases h2 : ns = ms
      · simp [h1, h2]
      · simp [h1, h2]
    · simp [h1]
theorem eqv_ints (ns ms : List Int) : PyData.eqv (.list (ns.map PyData.int)) (.list (ms.map PyData.int)) = decide (ns = ms) := by
  rw [← eqvA_ints]
  simp only [PyData.eqv]
def twD (n : Int) (ns : List Int) : PyData := .tuple [.int n, .list (ns.map PyData.int)]
theorem eqv_two (n m : Int) (ns ms : List Int) : PyData.eqv (twD n ns) (twD m ms) = decide (n = m ∧ ns = ms) := by
  have e : PyData.eqv (twD n ns) (twD m ms) = (decide (n = m) && PyData.eqv (.list (ns.map PyData.int)) (.list (ms.map PyData.int))) := by
    unfold twD
    simp only [PyData.eqv, PyData.eqvAll, Bool.and_true]
    rfl
  rw [e, eqv_ints]
  by_cases h1 : n = m
  · by_cases h2 : ns = ms
    · simp [h1, h2]
    · simp [h1, h2]
  · simp [h1]
theorem sh_two (n : Int) (ns : List Int) : SeqAt.shaped (twD n ns) = true := (Sm.tuple (Sm.cons (Sm.int n) (Sm.cons (Sm.list (Sm.ints ns)) Sm.nil))).sh (by decide)
section
variable {H : Hp} {Q : VK} {K : PySem.W.Frag}
theorem dp_tw {T R : Addr} {n : Int} {ns : List Int} (hT : H T = some (.tup [.int n, .ref R])) (hR : H R = some (.lst (ns.map V.int))) : Dp K H (.ref T) (twD n ns) := .tup (SqT.of hT) (.cons (.int _) (.cons (dp_intL (SqL.of hR)) .nil))
theorem st_eqX {x y : V} {d e : PyData} (hx : Dp K H x d) (hy : Dp K H y e) (hs : SeqAt.shaped d = true) (he : SeqAt.shaped e = true) (q : Q (.bl (PyData.eqv d e)) H) : rEqD K x y H Q := ⟨d, e, hx, hy, hs, he, q⟩
theorem st_neX {x y : V} {d e : PyData} (hx : Dp K H x d) (hy : Dp K H y e) (hs : SeqAt.shaped d = true) (he : SeqAt.shaped e = true) (q : Q (.bl (!PyData.eqv d e)) H) : rNeD K x y H Q := ⟨d, e, hx, hy, hs, he, q⟩
theorem st_eqI {a b : Addr} {ns ms : List Int} (h : SqL K H a (ns.map V.int)) (hb : SqL K H b (ms.map V.int)) (q : Q (.bl (decide (ns = ms))) H) : rEqD K (.ref a) (.ref b) H Q :=
  st_eqX (dp_intL h) (dp_intL hb) (sh_ints ns) (sh_ints ms) (by rw [eqv_ints]; exact q)
theorem st_neI {a b : Addr} {ns ms : List Int} (h : SqL K H a (ns.map V.int)) (hb : SqL K H b (ms.map V.int)) (q : Q (.bl (!decide (ns = ms))) H) : rNeD K (.ref a) (.ref b) H Q :=
  st_neX (dp_intL h) (dp_intL hb) (sh_ints ns) (sh_ints ms) (by rw [eqv_ints]; exact q)
theorem st_eqTw {T R S U : Addr} {n m : Int} {ns ms : List Int} (hT : H T = some (.tup [.int n, .ref R])) (hR : H R = some (.lst (ns.map V.int))) (hS : H S = some (.tup [.int m, .ref U])) (hU : H U = some (.lst (ms.map V.int))) (q : Q (.bl (decide (n = m ∧ ns = ms))) H) : rEqD K (.ref T) (.ref S) H Q :=
  st_eqX (dp_tw hT hR) (dp_tw hS hU) (sh_two _ _) (sh_two _ _) (by rw [eqv_two]; exact q)
theorem st_neTw {T R S U : Addr} {n m : Int} {ns ms : List Int} (hT : H T = some (.tup [.int n, .ref R])) (hR : H R = some (.lst (ns.map V.int))) (hS : H S = some (.tup [.int m, .ref U])) (hU : H U = some (.lst (ms.map V.int))) (q : Q (.bl (!decide (n = m ∧ ns = ms))) H) : rNeD K (.ref T) (.ref S) H Q :=
  st_neX (dp_tw hT hR) (dp_tw hS hU) (sh_two _ _) (sh_two _ _) (by rw [eqv_two]; exact q)
theorem st_neDt {T S : Addr} {s t : Dt} (hT : H T = some (.tup (dT s))) (hS : H S = some (.tup (dT t))) (q : Q (.bl (!decide (s = t))) H) : rNeD K (.ref T) (.ref S) H Q :=
  st_neX (dp_date hT) (dp_date hS) (sh_dD s) (sh_dD t) (by rw [eqv_date]; exact q)
theorem st_notIn {p : Addr} {k : Int} {ns : List Int} (h : SqL K H p (ns.map V.int)) (q : Q (.bl (!decide (k ∈ ns))) H) : rIn K true (.int k) (.ref p) H Q :=
  st_in (.inl h) rfl (by rw [List.all_map]; exact List.all_eq_true.mpr fun _ _ => rfl) (by rw [in_int]; exact q)
theorem st_revI {te : TE} {σ : L2.St} (h : te σ H fun x H1 => ∃ a xs, x = .ref a ∧ SqL K H1 a xs ∧ ∀ p, H1 p = none → Q (.ref p) (upd H1 p (.lst xs.reverse))) : tRevL K te σ H Q := h
end
/-! ### sizes -/
theorem cls_le (l : List Int) (g : Int) : (cls l g).length ≤ l.length := List.length_filter_le _ _
theorem missC_bd {w P : List Int} : (missC w P).length ≤ w.length := missC_le
theorem missY_le {r : Int} {ys P : List Int} (r0 : 0 ≤ r) (r1 : r < 4) : (missY (nY r ys) P).length ≤ 50 := by
  unfold missY
  by_cases c : nY r ys = [0, 1]
  · rw [if_pos c]
    split
    · decide
    · split
      · show 1 ≤ 50
        decide
      · show 0 ≤ 50
        decide
  · rw [if_neg c]
    obtain ⟨s, qs, s0, s1, e⟩ := (nY_kind r ys r0 r1).resolve_left c
    rw [e]
    have := flat_le (f := fun g => missC (cls (nFo s qs) g) (cls P g)) (l := rg25) fun g hg => by
      refine Nat.le_trans missC_le ?_
      rw [cls_fo s0 s1 hg]
      exact nCho_le _ _ _
    exact this
theorem shG_le {T r : Int} {ys : List Int} : (shG T r ys).length ≤ 50 := by
  unfold shG
  rw [List.length_map]
  exact missY_le (Int.emod_nonneg _ (by decide)) (Int.emod_lt_of_pos _ (by decide))
theorem shP_le {T : Int} : ∀ gs : List (Int × List Int), (shP T gs).length ≤ 50 * gs.length
  | [] => Nat.le_refl 0
  | g :: gs => by
    have h := shP_le (T := T) gs
    have a := shG_le (T := T) (r := g.1) (ys := g.2)
    unfold shP at h ⊢
    rw [List.flatMap_cons, List.length_append, List.length_cons]
    omega
theorem shL_le {T : Int} {gs : List (Int × List Int)} (h : gs.length ≤ 12) : (shL T gs).length ≤ 601 := by
  unfold shL
  split
  · exact Nat.zero_le _
  · rw [dif_len, List.length_append, srtD_len]
    have := shP_le (T := T) gs
    show _ + 1 ≤ 601
    omega
theorem pres_le (T r : Int) : (yrs [0, T] r).length ≤ 2 := by
  unfold yrs
  rw [List.length_map]
  exact List.length_filter_le _ _
end Mc
namespace Mc
open PySem PySem.Spec PyProof.Rows L2
theorem cutV_from {xs : List V} {c : Int} (h0 : 0 ≤ c) : cutV xs (some c) none = xs.drop c.toNat := by
  obtain ⟨k, rfl⟩ := Int.eq_ofNat_of_zero_le h0
  unfold cutV
  rw [HT.sIx_none, HT.sIx_nat]
  show (xs.drop (min k xs.length)).take (xs.length - min k xs.length) = xs.drop k
  by_cases h : k ≤ xs.length
  · rw [Nat.min_eq_left h, List.take_of_length_le (by rw [List.length_drop]; exact Nat.le_refl _)]
  · rw [Nat.min_eq_right (by omega), Nat.sub_self, List.take_zero, List.drop_eq_nil_of_le (by omega)]
theorem st_slFromU {K : PySem.W.Frag} {H : Hp} {Q : VK} {p : Addr} {ns : List Int} {c : Int} (h : SqL K H p (ns.map V.int)) (h0 : 0 ≤ c) (q : ∀ u, H u = none → Q (.ref u) (upd H u (.lst ((ns.drop c.toNat).map V.int)))) : rSlL K (.ref p) (some c) none H Q := by
  refine st_slL h ?_
  rw [cutV_from h0, ← List.map_drop]
  exact q
end Mc
/-! sets of years as bits -/
namespace Mc
open PySem PySem.Spec PyProof.Rows L2
def bn (p : Nat → Bool) : Nat → Nat
  | 0 => 0
  | n + 1 => bn p n + if p n = true then 2 ^ n else 0
theorem bn_lt (p : Nat → Bool) : ∀ n, bn p n < 2 ^ n
  | 0 => by show 0 < 1; decide
  | n + 1 => by
    have h := bn_lt p n
    rw [bn, Nat.pow_succ]
    split <;> omega
theorem bn_bit (p : Nat → Bool) (i : Nat) : ∀ n, (bn p n).testBit i = (decide (i < n) && p i)
  | 0 => by
    rw [bn, Nat.zero_testBit, decide_eq_false (Nat.not_lt_zero _)]
    rfl
  | n + 1 => by
    have h := bn_bit p i n
    have hl := bn_lt p n
    rw [bn]
    by_cases c : p n = true
    · rw [if_pos c, Nat.add_comm]
      by_cases e : i = n
      · subst e
        rw [Nat.testBit_two_pow_add_eq, h, decide_eq_false (Nat.lt_irrefl _), decide_eq_true (Nat.lt_succ_self _), c]
        rfl
      · by_cases l : i < n
        · rw [Nat.testBit_two_pow_add_gt l, h, decide_eq_true l, decide_eq_true (by omega)]
        · rw [decide_eq_false (by omega), Bool.false_and]
          refine Nat.testBit_lt_two_pow (Nat.lt_of_lt_of_le (m := 2 ^ (n + 1)) ?_ (Nat.pow_le_pow_right (by decide) (by omega)))
          rw [Nat.pow_succ]
          omega
    · rw [if_neg c, Nat.add_zero, h]
      by_cases e : i = n
      · subst e
        rw [Bool.eq_false_iff.mpr c]
        simp
      · by_cases l : i < n
        · rw [decide_eq_true l, decide_eq_true (by omega)]
        · rw [decide_eq_false l, decide_eq_false (by omega)]
def bmN (p : Int → Bool) (n : Nat) : Int := (((rgN n).filter p).map fun o => 1 * 2 ^ o.toNat).sum
def bm (p : Int → Bool) : Int := bmN p 400
theorem bmN_eq (p : Int → Bool) : ∀ n, bmN p n = (bn (fun i => p (i : Int)) n : Int)
  | 0 => rfl
  | n + 1 => by
    have h := bmN_eq p n
    have z : rgN (n + 1) = rgN n ++ [(n : Int)] := by
      unfold rgN
      rw [List.range_succ, List.map_append]
      rfl
    unfold bmN at h ⊢
    rw [z, List.filter_append, List.map_append, List.sum_append, h, bn]
    by_cases c : p (n : Int) = true
    · rw [if_pos c, List.filter_cons_of_pos c]
      simp
    · rw [if_neg c, List.filter_cons_of_neg c]
      simp
theorem bm_inj {p q : Int → Bool} (h : bm p = bm q) {o : Int} (h0 : 0 ≤ o) (h1 : o < 400) : p o = q o := by
  unfold bm at h
  rw [bmN_eq, bmN_eq] at h
  have e : bn (fun i => p (i : Int)) 400 = bn (fun i => q (i : Int)) 400 := Int.ofNat.inj h
  have b := congrArg (fun n => Nat.testBit n o.toNat) e
  simp only [bn_bit] at b
  rw [decide_eq_true (by omega), Bool.true_and, Bool.true_and, Int.toNat_of_nonneg h0] at b
  exact b
theorem bm_congr {p q : Int → Bool} (h : ∀ o, 0 ≤ o → o < 400 → p o = q o) : bm p = bm q := by
  unfold bm bmN
  rw [List.filter_congr fun o ho => h o (mem_rgN.mp ho).1 (by have := (mem_rgN.mp ho).2; omega)]
theorem bm_and (p q : Int → Bool) : Builtin.bitAnd (bm p) (bm q) = bm fun o => p o && q o := by
  unfold bm
  rw [bmN_eq, bmN_eq, bmN_eq]
  have e : ∀ a b : Nat, Builtin.bitAnd (a : Int) (b : Int) = ((a &&& b : Nat) : Int) := fun a b => rfl
  rw [e]
  congr 1
  refine Nat.eq_of_testBit_eq fun i => ?_
  rw [Nat.testBit_and, bn_bit, bn_bit, bn_bit]
  cases decide (i < 400) <;> simp
theorem bm_full : (1 : Int) * 2 ^ (400 : Int).toNat - 1 = bm fun _ => true := by decide +kernel
/-- the years that some years leave, as bits -/
def bL (os : List Int) : Int := bm fun y => os.all fun o => lp (y + o)
theorem bL_iff {os ps : List Int} : bL os = bL ps ↔ lft os = lft ps := by
  constructor
  · intro h
    unfold lft
    exact List.filter_congr fun y hy => bm_inj h (mem_rg400.mp hy).1 (mem_rg400.mp hy).2
  · intro h
    refine bm_congr fun y y0 y1 => ?_
    have hy : y ∈ rg400 := mem_rg400.mpr ⟨y0, y1⟩
    have a : y ∈ lft os ↔ y ∈ lft ps := by rw [h]
    unfold lft at a
    rw [List.mem_filter, List.mem_filter] at a
    rw [Bool.eq_iff_iff]
    exact ⟨fun z => (a.mp ⟨hy, z⟩).2, fun z => (a.mpr ⟨hy, z⟩).2⟩
theorem bL_and (os ps : List Int) : Builtin.bitAnd (bL os) (bL ps) = bL (os ++ ps) := by
  unfold bL
  rw [bm_and]
  exact bm_congr fun y _ _ => (List.all_append ..).symm
theorem bL_mod (o : Int) : bL [o % 400] = bL [o] := bL_iff.mpr (lft_ext fun y => lp_os (os := [o]))
end Mc
/-! no fewer years do; how many steps a shortest list has -/
namespace Mc
open PySem
theorem len_sub : ∀ {l m : List Int}, l.Nodup → (∀ k ∈ l, k ∈ m) → l.length ≤ m.length
  | [], _, _, _ => Nat.zero_le _
  | k :: l, m, nd, h => by
    have hk := h k (List.mem_cons_self ..)
    have ih := len_sub (l := l) (m := m.erase k) (List.nodup_cons.mp nd).2 fun j hj => by
      have ne : j ≠ k := fun z => (List.nodup_cons.mp nd).1 (z ▸ hj)
      exact (List.mem_erase_of_ne ne).mpr (h j (List.mem_cons_of_mem _ hj))
    rw [List.length_erase_of_mem hk] at ih
    have := List.length_pos_of_mem hk
    rw [List.length_cons]
    omega
theorem nd_lt {l : List Int} (h : l.Pairwise (· < ·)) : l.Nodup := h.imp fun a => Int.ne_of_lt a
theorem flat_mono {f h : Int → List Int} : ∀ {l : List Int}, (∀ g ∈ l, (f g).length ≤ (h g).length) → (l.flatMap f).length ≤ (l.flatMap h).length
  | [], _ => Nat.le_refl 0
  | g :: l, H => by
    have ih := flat_mono (l := l) fun x hx => H x (List.mem_cons_of_mem _ hx)
    have a := H g (List.mem_cons_self ..)
    rw [List.flatMap_cons, List.flatMap_cons, List.length_append, List.length_append]
    omega
theorem cls_cons (q : Int) (Q : List Int) (g : Int) : (cls (q :: Q) g).length = (cls Q g).length + if q / 4 % 25 = g then 1 else 0 := by
  unfold cls
  by_cases h : q / 4 % 25 = g
  · rw [List.filter_cons_of_pos (by rw [decide_eq_true h]), if_pos h, List.length_cons]
  · rw [List.filter_cons_of_neg (by rw [decide_eq_false h]; decide), if_neg h]
    rfl
theorem cls_sum : ∀ (Q : List Int) {l : List Int}, l.Nodup → (l.flatMap (cls Q)).length ≤ Q.length
  | [], l, _ => by
    have : ∀ l : List Int, l.flatMap (cls []) = [] := fun l => by
      induction l with
      | nil => rfl
      | cons g l ih => rw [List.flatMap_cons, ih]; rfl
    rw [this]
    exact Nat.le_refl 0
  | q :: Q, l, nd => by
    have ih := cls_sum Q nd
    have step : ∀ l : List Int, l.Nodup → (l.flatMap (cls (q :: Q))).length = (l.flatMap (cls Q)).length + if q / 4 % 25 ∈ l then 1 else 0 := fun l => by
      induction l with
      | nil => intro _; rfl
      | cons g l ih =>
        intro nd
        rw [List.flatMap_cons, List.flatMap_cons, List.length_append, List.length_append, ih (List.nodup_cons.mp nd).2, cls_cons]
        by_cases h : q / 4 % 25 = g
        · have hn : q / 4 % 25 ∉ l := fun z => (List.nodup_cons.mp nd).1 (h ▸ z)
          rw [if_pos h, if_neg hn, if_pos (by rw [h]; exact List.mem_cons_self ..)]
          omega
        · rw [if_neg h]
          by_cases hl : q / 4 % 25 ∈ l
          · rw [if_pos hl, if_pos (List.mem_cons_of_mem _ hl)]
            omega
          · rw [if_neg hl, if_neg (fun z => (List.mem_cons.mp z).elim h hl)]
            omega
    rw [step l nd, List.length_cons]
    split <;> omega
theorem nY_lY {r : Int} {ys : List Int} (h : ∃ y ∈ ys, y % 4 = r) : nY r ys = lY (lft ys) := by
  rw [nY_eq (r := r) (os := ys.map fun y => y % 400) h fun k => by
    rw [List.mem_map]
    exact ⟨fun ⟨w, hw, e⟩ => ⟨w, hw, e.symm⟩, fun ⟨w, hw, e⟩ => ⟨w, hw, e.symm⟩⟩, lft_ext fun y => lp_os]
theorem lft_full {ys : List Int} (h : lft ys = lft []) : ys = [] := Classical.byContradiction fun z => by
  obtain ⟨y0, hy0⟩ := List.exists_mem_of_ne_nil _ z
  have a : (1 - y0) % 400 ∈ lft [] := mem_lft.mpr fun o ho => (by cases ho)
  rw [← h] at a
  have := mem_lft.mp a y0 hy0
  rw [show 1 - y0 + y0 = 1 by omega] at this
  exact absurd this (by decide)
theorem nFo_mod {r : Int} {qs : List Int} (r0 : 0 ≤ r) (r1 : r < 4) {o : Int} (h : o ∈ nFo r qs) : o % 4 = r := by
  obtain ⟨g, _, hm⟩ := List.mem_flatMap.mp h
  unfold nCho at hm
  split at hm
  · obtain ⟨q, _, rfl⟩ := List.mem_map.mp hm
    show (r + 4 * q) % 4 = r
    omega
  · simp only [List.map_cons, List.map_nil, List.mem_cons, List.not_mem_nil, or_false] at hm
    omega
/-- what a form of years is -/
theorem nY_form {r : Int} {ys : List Int} (hr : ∃ y ∈ ys, y % 4 = r) (c : nY r ys ≠ [0, 1]) : (∀ y ∈ ys, y % 4 = r) ∧ nY r ys = nFo r (srt (ys.map fun y => y / 4 % 100)) := by
  unfold nY at c ⊢
  by_cases ha : (ys.all fun y => decide (y % 4 = r)) = true
  · rw [if_pos ha] at c ⊢
    by_cases hl : (nFo r (srt (ys.map fun y => y / 4 % 100))).length < 50
    · rw [if_pos hl] at c ⊢
      exact ⟨fun o ho => of_decide_eq_true (List.all_eq_true.mp ha o ho), rfl⟩
    · rw [if_neg hl] at c
      exact absurd rfl c
  · rw [if_neg ha] at c
    exact absurd rfl c
/-- one or two years, alike modulo 4, don't forbid all -/
theorem nY_few {r : Int} {ys : List Int} (hn : ys ≠ []) (ha : ∀ y ∈ ys, y % 4 = r) (h2 : ys.length ≤ 2) : nY r ys ≠ [0, 1] := by
  obtain ⟨y0, hy0⟩ := List.exists_mem_of_ne_nil _ hn
  have r0 : 0 ≤ r := by have := ha y0 hy0; omega
  have r1 : r < 4 := by have := ha y0 hy0; omega
  unfold nY
  rw [if_pos (List.all_eq_true.mpr fun y hy => decide_eq_true (ha y hy))]
  have ql : (srt (ys.map fun y => y / 4 % 100)).length ≤ 2 := by
    have := srt_len (ys.map fun y => y / 4 % 100)
    rw [List.length_map] at this
    omega
  generalize srt (ys.map fun y => y / 4 % 100) = qs at *
  have free : ∃ g ∈ rg25, ∀ q ∈ qs, q % 25 ≠ g := by
    match qs, ql with
    | [], _ => exact ⟨0, mem_rg25.mpr (by omega), fun q h => (by cases h)⟩
    | [a], _ => exact ⟨(a + 1) % 25, mem_rg25.mpr (by omega), fun q h => by rw [List.mem_singleton.mp h]; omega⟩
    | [a, b], _ =>
      by_cases c : (a + 1) % 25 = b % 25
      · refine ⟨(a + 2) % 25, mem_rg25.mpr (by omega), fun q h => ?_⟩
        simp only [List.mem_cons, List.not_mem_nil, or_false] at h
        rcases h with rfl | rfl <;> omega
      · refine ⟨(a + 1) % 25, mem_rg25.mpr (by omega), fun q h => ?_⟩
        simp only [List.mem_cons, List.not_mem_nil, or_false] at h
        rcases h with rfl | rfl <;> omega
  obtain ⟨g, hg, hf⟩ := free
  have e : nMem qs g = [] := List.filter_eq_nil_iff.mpr fun q hq => by rw [decide_eq_true_eq]; exact hf q hq
  have lt := flat_lt (f := fun g => nCho r g (nMem qs g)) (l := rg25) (fun g _ => nCho_le r g _) hg (by
    show (nCho r g (nMem qs g)).length < 2
    rw [e]
    exact Nat.zero_lt_two)
  have lt2 : (nFo r qs).length < 50 := lt
  rw [if_pos lt2]
  intro z
  have a := nFo_mod r0 r1 (o := 0) (by rw [z]; simp)
  have b := nFo_mod r0 r1 (o := 1) (by rw [z]; simp)
  omega
theorem lower {r : Int} {ys P Q : List Int} (hn : ys ≠ []) (hr : ∃ y ∈ ys, y % 4 = r) (hp2 : P.length ≤ 2) (h : lft (P ++ Q) = lft ys) : (missY (nY r ys) P).length ≤ Q.length := by
  have xn : P ++ Q ≠ [] := fun z => by
    rw [z] at h
    exact hn (lft_full h.symm)
  have xh := headD_mem xn
  generalize hs : (P ++ Q).headD 0 % 4 = s at *
  have hx : ∃ y ∈ P ++ Q, y % 4 = s := ⟨_, xh, hs⟩
  have s0 : 0 ≤ s := by omega
  have s1 : s < 4 := by omega
  have e : nY r ys = nY s (P ++ Q) := by rw [nY_lY hr, nY_lY hx, h]
  rw [e]
  by_cases c : nY s (P ++ Q) = [0, 1]
  · unfold missY
    rw [if_pos c]
    by_cases pn : P = []
    · rw [if_pos pn]
      show 2 ≤ Q.length
      subst pn
      rw [List.nil_append] at c xn hx xh hs
      match Q, c, xn, hs with
      | [], _, xn, _ => exact absurd rfl xn
      | [q], c, xn, hs => exact absurd c (nY_few xn (fun y hy => by rw [List.mem_singleton.mp hy]; exact hs) (by show 1 ≤ 2; decide))
      | _ :: _ :: Q, _, _, _ => rw [List.length_cons, List.length_cons]; omega
    · rw [if_neg pn]
      by_cases d : (P.all fun y => decide ((y - P.headD 0) % 4 = 0)) = true
      · rw [if_pos d]
        show 1 ≤ Q.length
        match Q, c, hs with
        | _ :: Q, _, _ => rw [List.length_cons]; omega
        | [], c, hs =>
          rw [List.append_nil] at c hs
          refine absurd c (nY_few pn (fun y hy => ?_) hp2)
          have := of_decide_eq_true (List.all_eq_true.mp d y hy)
          omega
      · rw [if_neg d]
        exact Nat.zero_le _
  · obtain ⟨ha, ef⟩ := nY_form hx c
    unfold missY
    rw [if_neg c, ef]
    refine Nat.le_trans (flat_mono (h := cls Q) fun g hg => ?_) (cls_sum Q (l := rg25) (by decide))
    rw [cls_fo s0 s1 hg]
    have gb := mem_rg25.mp hg
    have pw := pw_srt ((P ++ Q).map fun y => y / 4 % 100)
    have mm : ∀ q, q ∈ nMem (srt ((P ++ Q).map fun y => y / 4 % 100)) g → q ∈ srt ((cls P g).map fun y => y / 4 % 100) ++ (cls Q g).map fun y => y / 4 % 100 := fun q hq => by
      obtain ⟨h1, h2⟩ := mem_nMem.mp hq
      obtain ⟨y, hy, rfl⟩ := List.mem_map.mp (mem_srt.mp h1)
      have h3 : y / 4 % 25 = g := by omega
      rcases List.mem_append.mp hy with hy | hy
      · exact List.mem_append_left _ (mem_srt.mpr (List.mem_map_of_mem (f := fun y => y / 4 % 100) (mem_cls.mpr ⟨hy, h3⟩)))
      · exact List.mem_append_right _ (List.mem_map_of_mem (f := fun y => y / 4 % 100) (mem_cls.mpr ⟨hy, h3⟩))
    have len := len_sub (nd_lt (pw.filter (fun q => decide (q % 25 = g)))) mm
    rw [List.length_append, List.length_map] at len
    have cl : (nCho s g (nMem (srt ((P ++ Q).map fun y => y / 4 % 100)) g)).length ≤ (nMem (srt ((P ++ Q).map fun y => y / 4 % 100)) g).length := by
      unfold nCho
      split
      · rw [List.length_map]
        exact Nat.le_refl _
      · show 2 ≤ _
        omega
    replace len : (nMem (srt ((P ++ Q).map fun y => y / 4 % 100)) g).length ≤ _ := len
    generalize nCho s g (nMem (srt ((P ++ Q).map fun y => y / 4 % 100)) g) = w at *
    generalize (nMem (srt ((P ++ Q).map fun y => y / 4 % 100)) g).length = n at *
    unfold missC
    by_cases c1 : w.length ≤ (srt ((cls P g).map fun y => y / 4 % 100)).length
    · rw [if_pos c1]
      exact Nat.zero_le _
    · rw [if_neg c1]
      by_cases c2 : cls P g = []
      · rw [if_pos c2]
        rw [c2] at len
        have z : (srt (([] : List Int).map fun y => y / 4 % 100)).length = 0 := rfl
        omega
      · rw [if_neg c2]
        show 1 ≤ (cls Q g).length
        omega
/-- the years that are missing do, and no fewer -/
theorem missY_does {r : Int} {ys P : List Int} (hr : ∃ y ∈ ys, y % 4 = r) (hP : ∀ o ∈ P, o ∈ ys) : lft (P ++ missY (nY r ys) P) = lft ys := by
  refine lft_ext fun y => ?_
  rw [← nY_lp hr, ← missY_lp hr hP]
  constructor
  · intro z o ho
    rcases List.mem_append.mp ho with ho | ho
    · exact z o (List.mem_append_right _ ho)
    · exact z o (List.mem_append_left _ ho)
  · intro z o ho
    rcases List.mem_append.mp ho with ho | ho
    · exact z o (List.mem_append_right _ ho)
    · exact z o (List.mem_append_left _ ho)
/-- what a search among sets finds: 3 for more than two -/
def Ext (K : List Int) (J w e : Int) : Prop := (e = 0 ∧ J = w) ∨ (e = 1 ∧ J ≠ w ∧ ∃ m ∈ K, Builtin.bitAnd J m = w) ∨ (e = 2 ∧ J ≠ w ∧ (∀ m ∈ K, Builtin.bitAnd J m ≠ w) ∧ ∃ m ∈ K, ∃ m' ∈ K, Builtin.bitAnd (Builtin.bitAnd J m) m' = w) ∨
  (e = 3 ∧ J ≠ w ∧ (∀ m ∈ K, Builtin.bitAnd J m ≠ w) ∧ ∀ m ∈ K, ∀ m' ∈ K, Builtin.bitAnd (Builtin.bitAnd J m) m' ≠ w)
def msk : List Int := (rgN 400).map fun y => bL [y]
def stp (w : Int) : List Int := msk.filter fun m => decide (Builtin.bitAnd w m = w)
theorem mem_stp {ys : List Int} {m : Int} : m ∈ stp (bL ys) ↔ ∃ q, m = bL [q] ∧ lft (ys ++ [q]) = lft ys := by
  unfold stp msk
  rw [List.mem_filter, decide_eq_true_eq, List.mem_map]
  constructor
  · rintro ⟨⟨q, _, rfl⟩, h⟩
    rw [bL_and] at h
    exact ⟨q, rfl, bL_iff.mp h⟩
  · rintro ⟨q, rfl, h⟩
    exact ⟨⟨q % 400, mem_rgN.mpr (by omega), bL_mod q⟩, by rw [bL_and]; exact bL_iff.mpr h⟩
theorem lft_part {ys P Q : List Int} (h : lft (P ++ Q) = lft ys) {q : Int} (hq : q ∈ Q) : lft (ys ++ [q]) = lft ys := by
  refine lft_ext fun y => ?_
  have a : (∀ o ∈ P ++ Q, lp (y + o) = true) ↔ ∀ o ∈ ys, lp (y + o) = true := by rw [← mem_lft, ← mem_lft, h]
  constructor
  · intro z o ho
    exact z o (List.mem_append_left _ ho)
  · intro z o ho
    rcases List.mem_append.mp ho with ho | ho
    · exact z o ho
    · rw [List.mem_singleton.mp ho]
      exact a.mpr z q (List.mem_append_right _ hq)
theorem ext_ok {r : Int} {ys P : List Int} {e : Int} (hn : ys ≠ []) (hr : ∃ y ∈ ys, y % 4 = r) (hP : ∀ o ∈ P, o ∈ ys) (hp2 : P.length ≤ 2) (h : Ext (stp (bL ys)) (bL P) (bL ys) e) :
    0 ≤ e ∧ e ≤ 3 ∧ (e ≠ 3 → e = (missY (nY r ys) P).length) ∧ (e = 3 → 3 ≤ (missY (nY r ys) P).length) := by
  have low := fun Q (h : lft (P ++ Q) = lft ys) => lower hn hr hp2 h
  have does := missY_does hr hP
  generalize missY (nY r ys) P = M at *
  have ne0 : bL P ≠ bL ys → M.length ≠ 0 := fun z w => z (by
    rw [List.eq_nil_of_length_eq_zero w, List.append_nil] at does
    exact bL_iff.mpr does)
  have ne1 : (∀ m ∈ stp (bL ys), Builtin.bitAnd (bL P) m ≠ bL ys) → M.length ≠ 1 := fun z w => by
    match M, w with
    | [q], _ =>
      refine z (bL [q]) (mem_stp.mpr ⟨q, rfl, lft_part does (List.mem_singleton_self _)⟩) ?_
      rw [bL_and]
      exact bL_iff.mpr does
  have ne2 : (∀ m ∈ stp (bL ys), ∀ m' ∈ stp (bL ys), Builtin.bitAnd (Builtin.bitAnd (bL P) m) m' ≠ bL ys) → M.length ≠ 2 := fun z w => by
    match M, w with
    | [q, q'], _ =>
      refine z (bL [q]) (mem_stp.mpr ⟨q, rfl, lft_part does (by simp)⟩) (bL [q']) (mem_stp.mpr ⟨q', rfl, lft_part does (by simp)⟩) ?_
      rw [bL_and, bL_and, List.append_assoc]
      exact bL_iff.mpr does
  rcases h with ⟨rfl, h⟩ | ⟨rfl, h, m, hm, hx⟩ | ⟨rfl, h, h1, m, hm, m', hm', hx⟩ | ⟨rfl, h, h1, h2⟩
  · have := low [] (by rw [List.append_nil]; exact bL_iff.mp h)
    rw [List.length_nil] at this
    exact ⟨by omega, by omega, fun _ => by omega, fun z => by omega⟩
  · obtain ⟨q, rfl, _⟩ := mem_stp.mp hm
    rw [bL_and] at hx
    have := low [q] (bL_iff.mp hx)
    have a := ne0 h
    rw [List.length_singleton] at this
    exact ⟨by omega, by omega, fun _ => by omega, fun z => by omega⟩
  · obtain ⟨q, rfl, _⟩ := mem_stp.mp hm
    obtain ⟨q', rfl, _⟩ := mem_stp.mp hm'
    rw [bL_and, bL_and, List.append_assoc] at hx
    have := low [q, q'] (bL_iff.mp hx)
    have a := ne0 h
    have b := ne1 h1
    rw [List.length_cons, List.length_singleton] at this
    exact ⟨by omega, by omega, fun _ => by omega, fun z => by omega⟩
  · have a := ne0 h
    have b := ne1 h1
    have c := ne2 h2
    exact ⟨by omega, by omega, fun z => absurd rfl z, fun _ => by omega⟩
/-! ### how many steps -/
/-- the years that are missing at a distance -/
def ndR (V : List Int) (T r : Int) : List Int := if yrs V r = [] then [] else missY (nY ((yrs V r).headD 0 % 4) (yrs V r)) (yrs [0, T] r)
theorem flat_len {f : Int → List Int} : ∀ l : List Int, ((l.flatMap f).length : Int) = (l.map fun r => ((f r).length : Int)).sum
  | [] => rfl
  | r :: l => by
    rw [List.flatMap_cons, List.length_append, List.map_cons, List.sum_cons, ← flat_len l]
    omega
theorem shP_len {T : Int} {gs : List (Int × List Int)} {V : List Int} (G : Grp gs V) : ((shP T gs).length : Int) = ((rgN 12).map fun r => ((ndR V T r).length : Int)).sum := by
  have e1 : (shP T gs).length = ((gs.map (·.1)).flatMap (ndR V T)).length := by
    unfold shP
    rw [List.flatMap_map]
    have : ∀ l : List (Int × List Int), (∀ g ∈ l, g.2 = yrs V g.1 ∧ g.2 ≠ []) → (l.flatMap fun g => shG T g.1 g.2).length = (l.flatMap fun g => ndR V T g.1).length := fun l => by
      induction l with
      | nil => intro _; rfl
      | cons g l ih =>
        intro h
        obtain ⟨c, d⟩ := h g (List.mem_cons_self ..)
        rw [List.flatMap_cons, List.flatMap_cons, List.length_append, List.length_append, ih fun x hx => h x (List.mem_cons_of_mem _ hx)]
        rw [c] at d
        unfold shG ndR
        rw [List.length_map, if_neg d, c]
    exact this gs fun g hg => ⟨(G.is g hg).2.2.1, (G.is g hg).2.2.2⟩
  have e2 : (rgN 12).flatMap (ndR V T) = ((rgN 12).filter fun r => decide (yrs V r ≠ [])).flatMap (ndR V T) := by
    have : ∀ l : List Int, l.flatMap (ndR V T) = (l.filter fun r => decide (yrs V r ≠ [])).flatMap (ndR V T) := fun l => by
      induction l with
      | nil => rfl
      | cons r l ih =>
        rw [List.flatMap_cons, List.filter_cons, ih]
        by_cases h : yrs V r = []
        · rw [if_neg (by simp [h])]
          have : ndR V T r = [] := by
            unfold ndR
            rw [if_pos h]
          rw [this, List.nil_append]
        · rw [if_pos (by simp [h]), List.flatMap_cons]
    exact this _
  rw [e1, ← flat_len, e2]
  refine congrArg Int.ofNat (List.Perm.length_eq (List.Perm.flatMap_right _ ((List.perm_ext_iff_of_nodup G.nd ?_).mpr fun r => ?_)))
  · exact List.Pairwise.filter _ (by decide)
  · rw [List.mem_map, List.mem_filter, mem_rgN]
    constructor
    · rintro ⟨g, hg, rfl⟩
      obtain ⟨a, b, c, d⟩ := G.is g hg
      exact ⟨⟨a, b⟩, decide_eq_true (by rw [← c]; exact d)⟩
    · rintro ⟨⟨a, b⟩, h⟩
      have h2 : yrs V r ≠ [] := of_decide_eq_true h
      refine Classical.byContradiction fun z => h2 (G.none fun g hg e => z ⟨g, hg, e⟩)
/-- the number of steps of a shortest list -/
def fw (ns : List Int) : Int :=
  if ns.sum = 0 ∧ ((rgN 12).map fun r => ((ndR (srt (sms ns)) ns.sum r).length : Int)).sum = 0 then 0 else 1 + ((rgN 12).map fun r => ((ndR (srt (sms ns)) ns.sum r).length : Int)).sum
theorem shL_len {ns : List Int} {gs : List (Int × List Int)} (G : Grp gs (srt (sms ns))) : ((shL ns.sum gs).length : Int) = fw ns := by
  have e := shP_len (T := ns.sum) G
  unfold fw shL
  rw [← e]
  by_cases c : ns.sum = 0 ∧ shP ns.sum gs = []
  · rw [if_pos c, if_pos ⟨c.1, by rw [c.2]; rfl⟩]
    rfl
  · rw [if_neg c, if_neg fun z => c ⟨z.1, List.eq_nil_of_length_eq_zero (by omega)⟩, dif_len, List.length_append, srtD_len, List.length_singleton]
    omega
end Mc
/-! dicts as sets of numbers, walked by their keys more than once; what a search in two rounds finds -/
namespace Mc
open PySem PySem.Spec PyProof.Rows L2
/-- the keys of a dict are these numbers -/
structure KeyS (es : List (Key × V)) (ks : List Int) : Prop where
  is : ∀ e ∈ es, ∃ k, e.1 = .inl k ∧ k ∈ ks
  has : ∀ k ∈ ks, ∃ e ∈ es, e.1 = (.inl k : Key)
theorem KeyS.nil : KeyS [] [] := ⟨fun e h => (by cases h), fun k h => (by cases h)⟩
theorem KeyS.put {es : List (Key × V)} {ks : List Int} (h : KeyS es ks) (k : Int) (v : V) : KeyS (putK es (.inl k) v) (ks ++ [k]) := by
  have old : ∀ j ∈ ks ++ [k], j ≠ k → j ∈ ks := fun j hj n => by
    rcases List.mem_append.mp hj with hj | hj
    · exact hj
    · exact absurd (List.mem_singleton.mp hj) n
  unfold putK
  by_cases c : (es.any fun e => decide (e.1 = (.inl k : Key))) = true
  · rw [if_pos c]
    refine ⟨fun e he => ?_, fun j hj => ?_⟩
    · obtain ⟨x, hx, rfl⟩ := List.mem_map.mp he
      obtain ⟨j, e1, hj⟩ := h.is x hx
      refine ⟨j, ?_, List.mem_append_left _ hj⟩
      split
      · exact e1
      · exact e1
    · have : ∃ e ∈ es, e.1 = (.inl j : Key) := by
        by_cases n : j = k
        · subst n
          obtain ⟨e, he, d⟩ := List.any_eq_true.mp c
          exact ⟨e, he, of_decide_eq_true d⟩
        · exact h.has j (old j hj n)
      obtain ⟨e, he, e1⟩ := this
      refine ⟨_, List.mem_map_of_mem he, ?_⟩
      split
      · exact e1
      · exact e1
  · rw [if_neg c]
    refine ⟨fun e he => ?_, fun j hj => ?_⟩
    · rcases List.mem_append.mp he with he | he
      · obtain ⟨j, e1, hj⟩ := h.is e he
        exact ⟨j, e1, List.mem_append_left _ hj⟩
      · rw [List.mem_singleton.mp he]
        exact ⟨k, rfl, List.mem_append_right _ (List.mem_singleton_self _)⟩
    · by_cases n : j = k
      · subst n
        exact ⟨_, List.mem_append_right _ (List.mem_singleton_self _), rfl⟩
      · obtain ⟨e, he, e1⟩ := h.has j (old j hj n)
        exact ⟨e, List.mem_append_left _ he, e1⟩
theorem putK_len (es : List (Key × V)) (k : Key) (v : V) : (putK es k v).length ≤ es.length + 1 := by
  unfold putK
  split
  · rw [List.length_map]
    exact Nat.le_succ _
  · rw [List.length_append]
    exact Nat.le_refl _
theorem KeyS.list : ∀ {es : List (Key × V)} {ks : List Int}, KeyS es ks → ∃ ls : List Int, (es.map fun kv => kV kv.1) = ls.map V.int ∧ ls.length = es.length ∧ ∀ k, k ∈ ls ↔ k ∈ ks := fun {es ks} h => by
  have z : ∀ es : List (Key × V), (∀ e ∈ es, ∃ k, e.1 = .inl k ∧ k ∈ ks) → ∃ ls : List Int, (es.map fun kv => kV kv.1) = ls.map V.int ∧ ls.length = es.length ∧ ∀ k, k ∈ ls ↔ ∃ e ∈ es, e.1 = (.inl k : Key) := fun es => by
    induction es with
    | nil => exact fun _ => ⟨[], rfl, rfl, fun k => ⟨fun h => (by cases h), fun ⟨e, h, _⟩ => (by cases h)⟩⟩
    | cons e es ih =>
      intro h
      obtain ⟨k, e1, _⟩ := h e (List.mem_cons_self ..)
      obtain ⟨ls, m, l, mem⟩ := ih fun x hx => h x (List.mem_cons_of_mem _ hx)
      refine ⟨k :: ls, ?_, by rw [List.length_cons, List.length_cons, l], fun j => ?_⟩
      · rw [List.map_cons, List.map_cons, m, e1]
        rfl
      · rw [List.mem_cons, mem]
        constructor
        · rintro (rfl | ⟨x, hx, ex⟩)
          · exact ⟨e, List.mem_cons_self .., e1⟩
          · exact ⟨x, List.mem_cons_of_mem _ hx, ex⟩
        · rintro ⟨x, hx, ex⟩
          rcases List.mem_cons.mp hx with rfl | hx
          · rw [e1] at ex
            exact .inl (Sum.inl.inj ex).symm
          · exact .inr ⟨x, hx, ex⟩
  obtain ⟨ls, m, l, mem⟩ := z es h.is
  refine ⟨ls, m, l, fun k => (mem k).trans ⟨?_, h.has k⟩⟩
  rintro ⟨e, he, ek⟩
  obtain ⟨j, e1, hj⟩ := h.is e he
  rw [e1] at ek
  rw [← Sum.inl.inj ek]
  exact hj
/-! ### rounds -/
def InvR (K : List Int) (J w : Int) (i : Nat) (ls : List Int) : Prop := (i = 0 ∧ ls = [J]) ∨ (i = 1 ∧ (∀ k, k ∈ ls ↔ ∃ m ∈ K, k = Builtin.bitAnd J m) ∧ ∀ m ∈ K, Builtin.bitAnd J m ≠ w) ∨
  (i = 2 ∧ (∀ m ∈ K, Builtin.bitAnd J m ≠ w) ∧ ∀ m ∈ K, ∀ m' ∈ K, Builtin.bitAnd (Builtin.bitAnd J m) m' ≠ w)
theorem InvR.hit {K : List Int} {J w : Int} {i : Nat} {ls : List Int} (h : InvR K J w i ls) (l : i < 2) (hJ : J ≠ w) {o m : Int} (ho : o ∈ ls) (hm : m ∈ K) (e : Builtin.bitAnd o m = w) : Ext K J w ((i : Int) + 1) := by
  rcases h with ⟨rfl, rfl⟩ | ⟨rfl, h1, h2⟩ | ⟨rfl, _⟩
  · rw [List.mem_singleton.mp ho] at e
    exact .inr (.inl ⟨rfl, hJ, m, hm, e⟩)
  · obtain ⟨m', hm', rfl⟩ := (h1 o).mp ho
    exact .inr (.inr (.inl ⟨rfl, hJ, h2, m', hm', m, hm, e⟩))
  · omega
theorem InvR.next {K : List Int} {J w : Int} {i : Nat} {ls ls' : List Int} (h : InvR K J w i ls) (l : i < 2) (hn : ∀ o ∈ ls, ∀ m ∈ K, Builtin.bitAnd o m ≠ w) (hm : ∀ k, k ∈ ls' ↔ ∃ o ∈ ls, ∃ m ∈ K, k = Builtin.bitAnd o m) : InvR K J w (i + 1) ls' := by
  rcases h with ⟨rfl, rfl⟩ | ⟨rfl, h1, h2⟩ | ⟨rfl, _⟩
  · refine .inr (.inl ⟨rfl, fun k => (hm k).trans ?_, fun m hm => hn J (List.mem_singleton_self _) m hm⟩)
    constructor
    · rintro ⟨o, ho, m, hm, e⟩
      rw [List.mem_singleton.mp ho] at e
      exact ⟨m, hm, e⟩
    · rintro ⟨m, hm, e⟩
      exact ⟨J, List.mem_singleton_self _, m, hm, e⟩
  · exact .inr (.inr ⟨rfl, h2, fun m hm m' hm' => hn _ ((h1 _).mpr ⟨m, hm, rfl⟩) m' hm'⟩)
  · omega
theorem InvR.fin {K : List Int} {J w : Int} {ls : List Int} (h : InvR K J w 2 ls) (hJ : J ≠ w) : Ext K J w 3 := by
  rcases h with ⟨z, _⟩ | ⟨z, _⟩ | ⟨_, h1, h2⟩
  · cases z
  · cases z
  · exact .inr (.inr (.inr ⟨rfl, hJ, h1, h2⟩))
/-- what the search says of each distance, and what is missing there -/
inductive NE : List Int → List Int → Prop
  | nil : NE [] []
  | cons {e d : Int} {es ds : List Int} : 0 ≤ e → e ≤ 3 → (e ≠ 3 → e = d) → (e = 3 → 3 ≤ d) → NE es ds → NE (e :: es) (d :: ds)
theorem NE.snoc {es ds : List Int} {e d : Int} (h : NE es ds) (h0 : 0 ≤ e) (h1 : e ≤ 3) (h2 : e ≠ 3 → e = d) (h3 : e = 3 → 3 ≤ d) : NE (es ++ [e]) (ds ++ [d]) := by
  induction h with
  | nil => exact .cons h0 h1 h2 h3 .nil
  | cons a b c d _ ih => exact .cons a b c d ih
theorem NE.len {es ds : List Int} (h : NE es ds) : es.length = ds.length := by
  induction h with
  | nil => rfl
  | cons _ _ _ _ _ ih => rw [List.length_cons, List.length_cons, ih]
theorem NE.eq {es ds : List Int} (h : NE es ds) : 3 ∉ es → es = ds := by
  induction h with
  | nil => exact fun _ => rfl
  | @cons e d es ds _ _ c _ _ ih =>
    intro n
    have e3 : e ≠ 3 := fun z => n (by rw [z]; exact List.mem_cons_self ..)
    rw [c e3, ih fun z => n (List.mem_cons_of_mem _ z)]
theorem NE.le {es ds : List Int} (h : NE es ds) : es.sum ≤ ds.sum := by
  induction h with
  | nil => exact Int.le_refl _
  | @cons e d es ds _ _ c k _ ih =>
    rw [List.sum_cons, List.sum_cons]
    by_cases e3 : e = 3
    · have := k e3
      omega
    · have := c e3
      omega
theorem NE.pos {es ds : List Int} (h : NE es ds) : 0 ≤ es.sum ∧ (es.sum = 0 ↔ es = List.replicate es.length 0) := by
  induction h with
  | nil => exact ⟨Int.le_refl _, fun _ => rfl, fun _ => rfl⟩
  | @cons e d es ds a _ _ _ _ ih =>
    rw [List.sum_cons, List.length_cons, List.replicate_succ]
    refine ⟨by omega, fun z => ?_, fun z => ?_⟩
    · rw [show e = 0 by omega, ← ih.2.mp (by omega)]
    · have e1 := (List.cons.inj z).1
      have e2 := ih.2.mpr (List.cons.inj z).2
      omega
theorem NE.few {es ds : List Int} (h : NE es ds) : (∀ d ∈ ds, d ≤ 2) → 3 ∉ es := by
  induction h with
  | nil => exact fun _ z => (by cases z)
  | @cons e d es ds _ _ _ k _ ih =>
    intro n z
    rcases List.mem_cons.mp z with z | z
    · have := k z.symm
      have := n d (List.mem_cons_self ..)
      omega
    · exact ih (fun x hx => n x (List.mem_cons_of_mem _ hx)) z
/-- the missing years at each distance -/
def ndL (ns : List Int) (n : Nat) : List Int := (rgN n).map fun r => ((ndR (srt (sms ns)) ns.sum r).length : Int)
/-- the number that is due -/
def due (ns es : List Int) : Int := if ¬ es = List.replicate 12 0 ∨ ¬ ns.sum = 0 then 1 + es.sum else 0
theorem due_ok {ns es : List Int} (h : NE es (ndL ns 12)) : (3 ∉ es → due ns es = fw ns) ∧ due ns es ≤ fw ns := by
  have hl : es.length = 12 := h.len
  have p := h.pos
  rw [hl] at p
  have le := h.le
  have ef : fw ns = if ns.sum = 0 ∧ (ndL ns 12).sum = 0 then 0 else 1 + (ndL ns 12).sum := rfl
  have eq : 3 ∉ es → due ns es = fw ns := fun n => by
    rw [ef, ← h.eq n]
    unfold due
    by_cases c : ns.sum = 0 ∧ es.sum = 0
    · rw [if_pos c, if_neg fun z => z.elim (fun y => y (p.2.mp c.2)) fun y => y c.1]
    · rw [if_neg c, if_pos]
      by_cases d : ns.sum = 0
      · exact .inl fun z => c ⟨d, p.2.mpr z⟩
      · exact .inr d
  refine ⟨eq, ?_⟩
  by_cases n : 3 ∈ es
  · rw [ef]
    unfold due
    have ne : ¬ es = List.replicate 12 0 := fun z => by
      rw [z] at n
      exact absurd n (by decide)
    have s0 : es.sum ≠ 0 := fun z => ne (p.2.mp z)
    rw [if_pos (.inl ne), if_neg fun z => by omega]
    omega
  · exact Int.le_of_eq (eq n)
end Mc
namespace Mc
open PySem PySem.Spec PyProof.Rows L2
/-- a dict that nobody writes from here on, asked more than once -/
def tFrzA (te : TE) : TE := fun σ H Q => te σ H fun x H1 => ∃ d kvs, x = .ref d ∧ ((H1 d = some (.dK kvs) ∧ ∀ od, Q (.ref d) (upd H1 d (.frz od (.dK kvs)))) ∨ ∃ od, H1 d = some (.frz od (.dK kvs)) ∧ Q (.ref d) H1)
section
variable {X : Cx} {σ : L2.St} {H : Hp} {Q : VK} {td te : TE}
theorem pe_frzA {e : Expr} (he : PE X e te) : PE X e (tFrzA te) := by
  constructor
  intro pins s σ H Q I h
  refine thn (he.run pins s σ H _ I h) ?_
  rintro v s1 ⟨x, H1, I1, r, d, kvs, rfl, h⟩
  rcases h with ⟨hd, q⟩ | ⟨od, hd, q⟩
  · obtain ⟨od, I2⟩ := I1.lock hd trivial
    exact ⟨.ref d, _, I2, r, q od⟩
  · exact ⟨.ref d, _, I1, r, q⟩
theorem st_frzA (h : te σ H fun x H1 => ∃ d kvs, x = .ref d ∧ ((H1 d = some (.dK kvs) ∧ ∀ od, Q (.ref d) (upd H1 d (.frz od (.dK kvs)))) ∨ ∃ od, H1 d = some (.frz od (.dK kvs)) ∧ Q (.ref d) H1)) : tFrzA te σ H Q := h
theorem st_itK {R : It → Hp → Prop} (h : td σ H fun x H1 => ∃ d o, x = .ref d ∧ ((∃ kvs, H1 d = some (.frz o (.dK kvs)) ∧ R (Itk d o kvs) H1) ∨ ∃ kvs, H1 d = some (.frz o (.dT kvs)) ∧ R (Itkt d o kvs) H1)) : iKeys td σ H R := h
end
/-- for k in d: .. -/
theorem fK {d : Addr} {o : Obj} {kvs : List (Key × V)} {g : TG} {tb : TS} {nx : L2.St → Hp → Prop} {rt : VK} {σ : L2.St} {H : Hp} (Pv : Nat → L2.St → Hp → Prop) (h0 : Pv 0 σ H) (hl : ∀ i σ H, i ≤ kvs.length → Pv i σ H → H d = some (.frz o (.dK kvs)))
    (hs : ∀ i k v σ H, kvs[i]? = some (k, v) → Pv i σ H → g (kV k) σ H fun σ2 H2 => tb ⟨Pv (i + 1), rt, nx, Pv (i + 1)⟩ σ2 H2) (hd : ∀ σ H, Pv kvs.length σ H → nx σ H) :
    ∃ W : Nat → Nat → L2.St → Hp → Prop, (∃ m, W 0 m σ H) ∧ ∀ i m σ H, W i m σ H →
      ((Itk d o kvs).stop i H ∧ nx σ H) ∨ ((Itk d o kvs).go i H ∧ ∃ N : L2.St → Hp → Prop, (∀ σ' H', N σ' H' → ∃ m', m' < m ∧ W (i + 1) m' σ' H') ∧ ∀ x H', (Itk d o kvs).yld i H x H' → g x σ H' fun σ2 H2 => tb ⟨N, rt, nx, N⟩ σ2 H2) := by
  refine ⟨fun i m σ H => m = kvs.length - i ∧ i ≤ kvs.length ∧ Pv i σ H, ⟨_, rfl, Nat.zero_le _, h0⟩, ?_⟩
  rintro i m σ1 H1 ⟨rfl, hi, p⟩
  have z := hl i σ1 H1 hi p
  by_cases lt : i < kvs.length
  · refine .inr ⟨⟨z, lt⟩, Pv (i + 1), fun σ' H' p' => ⟨_, Nat.sub_succ_lt_self _ _ lt, rfl, lt, p'⟩, ?_⟩
    rintro x H' ⟨rfl, k, v, e, rfl⟩
    exact hs i k v σ1 _ e p
  · obtain rfl : i = kvs.length := by omega
    exact .inl ⟨⟨z, Nat.le_refl _⟩, hd σ1 H1 p⟩
end Mc
namespace Mc
theorem nY_le (r : Int) (ys : List Int) : (nY r ys).length ≤ 50 := by
  unfold nY
  split
  · split
    · omega
    · decide
  · decide
end Mc
namespace Mc
open PySem PySem.Spec PyProof.Rows L2

def topS (i : Nat) : Stmt := PySem.Challenge.pw_monthclamp_k14_fewest_steps_by_search.main.body.getD i (.Pass ⟨0, 0, 0, 0⟩)
abbrev s_sums_of : Stmt := topS 1
abbrev N_sums_of : List Str := ["steps", "total", "found", "step"]
theorem sc_sums_of : FnScope N_sums_of ["steps"] (defScope s_sums_of) := ⟨rfl, rfl, rfl, by decide +kernel, rfl, by decide +kernel, by decide +kernel⟩
abbrev s_years_by_remainder : Stmt := topS 7
abbrev N_years_by_remainder : List Str := ["sums", "found", "number", "remainder"]
theorem sc_years_by_remainder : FnScope N_years_by_remainder ["sums"] (defScope s_years_by_remainder) := ⟨rfl, rfl, rfl, by decide +kernel, rfl, by decide +kernel, by decide +kernel⟩
abbrev s_normal_years : Stmt := topS 8
abbrev N_normal_years : List Str := ["years", "remainder", "quarters", "found", "group", "members", "chosen", "year", "quarter"]
theorem sc_normal_years : FnScope N_normal_years ["years"] (defScope s_normal_years) := ⟨rfl, rfl, rfl, by decide +kernel, rfl, by decide +kernel, by decide +kernel⟩
abbrev s_class_of : Stmt := topS 10
abbrev N_class_of : List Str := ["year"]
theorem sc_class_of : FnScope N_class_of ["year"] (defScope s_class_of) := ⟨rfl, rfl, rfl, by decide +kernel, rfl, by decide +kernel, by decide +kernel⟩
abbrev s_missing_in_class : Stmt := topS 11
abbrev N_missing_in_class : List Str := ["wanted", "present", "met", "year"]
theorem sc_missing_in_class : FnScope N_missing_in_class ["wanted", "present"] (defScope s_missing_in_class) := ⟨rfl, rfl, rfl, by decide +kernel, rfl, by decide +kernel, by decide +kernel⟩
abbrev s_missing_years : Stmt := topS 12
abbrev N_missing_years : List Str := ["wanted", "present", "found", "group", "year"]
theorem sc_missing_years : FnScope N_missing_years ["wanted", "present"] (defScope s_missing_years) := ⟨rfl, rfl, rfl, by decide +kernel, rfl, by decide +kernel, by decide +kernel⟩
abbrev s_shortest_list : Stmt := topS 13
abbrev N_shortest_list : List Str := ["steps", "total", "sums", "remainder", "years", "present", "missing", "visited", "number", "year", "earlier", "later"]
theorem sc_shortest_list : FnScope N_shortest_list ["steps"] (defScope s_shortest_list) := ⟨rfl, rfl, rfl, by decide +kernel, rfl, by decide +kernel, by decide +kernel⟩
abbrev s_fewest_steps : Stmt := topS 14
abbrev N_fewest_steps : List Str := ["steps"]
theorem sc_fewest_steps : FnScope N_fewest_steps ["steps"] (defScope s_fewest_steps) := ⟨rfl, rfl, rfl, by decide +kernel, rfl, by decide +kernel, by decide +kernel⟩
abbrev s_law_rng : Stmt := topS 16
abbrev N_law_rng : List Str := ["script", "digits", "seed", "cell", "size"]
theorem sc_law_rng : FnScope N_law_rng ["script"] (defScope s_law_rng) := ⟨rfl, rfl, rfl, by decide +kernel, rfl, by decide +kernel, by decide +kernel⟩
abbrev s_law_draw : Stmt := topS 17
abbrev N_law_draw : List Str := ["rng", "limit", "found", "mixed"]
theorem sc_law_draw : FnScope N_law_draw ["rng", "limit"] (defScope s_law_draw) := ⟨rfl, rfl, rfl, by decide +kernel, rfl, by decide +kernel, by decide +kernel⟩
abbrev s_law_one : Stmt := topS 18
abbrev N_law_one : List Str := ["rng", "kind", "size"]
theorem sc_law_one : FnScope N_law_one ["rng", "kind"] (defScope s_law_one) := ⟨rfl, rfl, rfl, by decide +kernel, rfl, by decide +kernel, by decide +kernel⟩
abbrev s_law_moves : Stmt := topS 19
abbrev N_law_moves : List Str := ["rng", "most", "kinds", "turn"]
theorem sc_law_moves : FnScope N_law_moves ["rng", "most"] (defScope s_law_moves) := ⟨rfl, rfl, rfl, by decide +kernel, rfl, by decide +kernel, by decide +kernel⟩
abbrev s_law_is_leap : Stmt := topS 20
abbrev N_law_is_leap : List Str := ["year"]
theorem sc_law_is_leap : FnScope N_law_is_leap ["year"] (defScope s_law_is_leap) := ⟨rfl, rfl, rfl, by decide +kernel, rfl, by decide +kernel, by decide +kernel⟩
abbrev s_law_sums : Stmt := topS 21
abbrev N_law_sums : List Str := ["moves", "found", "one"]
theorem sc_law_sums : FnScope N_law_sums ["moves"] (defScope s_law_sums) := ⟨rfl, rfl, rfl, by decide +kernel, rfl, by decide +kernel, by decide +kernel⟩
abbrev s_law_masks : Stmt := topS 22
abbrev N_law_masks : List Str := ["found", "year", "other"]
theorem sc_law_masks : FnScope N_law_masks [] (defScope s_law_masks) := ⟨rfl, rfl, rfl, by decide +kernel, rfl, by decide +kernel, by decide +kernel⟩
abbrev s_law_joined : Stmt := topS 23
abbrev N_law_joined : List Str := ["masks", "years", "found", "year"]
theorem sc_law_joined : FnScope N_law_joined ["masks", "years"] (defScope s_law_joined) := ⟨rfl, rfl, rfl, by decide +kernel, rfl, by decide +kernel, by decide +kernel⟩
abbrev s_law_extra : Stmt := topS 24
abbrev N_law_extra : List Str := ["masks", "wanted", "present", "steps_here", "mask", "layer", "many", "later", "one"]
theorem sc_law_extra : FnScope N_law_extra ["masks", "wanted", "present"] (defScope s_law_extra) := ⟨rfl, rfl, rfl, by decide +kernel, rfl, by decide +kernel, by decide +kernel⟩
abbrev s_law_needs : Stmt := topS 25
abbrev N_law_needs : List Str := ["masks", "moves", "sums", "end", "found", "rest", "years", "present", "number"]
theorem sc_law_needs : FnScope N_law_needs ["masks", "moves"] (defScope s_law_needs) := ⟨rfl, rfl, rfl, by decide +kernel, rfl, by decide +kernel, by decide +kernel⟩
abbrev s_law : Stmt := topS 26
abbrev N_law : List Str := ["script", "rng", "masks", "lap", "moves", "last", "some", "kept", "needs", "due", "told"]
theorem sc_law : FnScope N_law ["script"] (defScope s_law) := ⟨rfl, rfl, rfl, by decide +kernel, rfl, by decide +kernel, by decide +kernel⟩
/-- what the top has left, by names -/
structure Txt (K : PySem.W.Frag) (mg : Str → Option Value) where
  g_sums_of : mg "sums_of" = some (.ref (He.ga K "sums_of"))
  fd_sums_of : FuncData
  F_sums_of : FunD K "sums_of" "sums_of" (defArgs s_sums_of) (defBody s_sums_of) (defScope s_sums_of) [] [] (He.ga K "sums_of") fd_sums_of
  g_years_by_remainder : mg "years_by_remainder" = some (.ref (He.ga K "years_by_remainder"))
  fd_years_by_remainder : FuncData
  F_years_by_remainder : FunD K "years_by_remainder" "years_by_remainder" (defArgs s_years_by_remainder) (defBody s_years_by_remainder) (defScope s_years_by_remainder) [] [] (He.ga K "years_by_remainder") fd_years_by_remainder
  g_normal_years : mg "normal_years" = some (.ref (He.ga K "normal_years"))
  fd_normal_years : FuncData
  F_normal_years : FunD K "normal_years" "normal_years" (defArgs s_normal_years) (defBody s_normal_years) (defScope s_normal_years) [] [] (He.ga K "normal_years") fd_normal_years
  g_class_of : mg "class_of" = some (.ref (He.ga K "class_of"))
  fd_class_of : FuncData
  F_class_of : FunD K "class_of" "class_of" (defArgs s_class_of) (defBody s_class_of) (defScope s_class_of) [] [] (He.ga K "class_of") fd_class_of
  g_missing_in_class : mg "missing_in_class" = some (.ref (He.ga K "missing_in_class"))
  fd_missing_in_class : FuncData
  F_missing_in_class : FunD K "missing_in_class" "missing_in_class" (defArgs s_missing_in_class) (defBody s_missing_in_class) (defScope s_missing_in_class) [] [] (He.ga K "missing_in_class") fd_missing_in_class
  g_missing_years : mg "missing_years" = some (.ref (He.ga K "missing_years"))
  fd_missing_years : FuncData
  F_missing_years : FunD K "missing_years" "missing_years" (defArgs s_missing_years) (defBody s_missing_years) (defScope s_missing_years) [] [] (He.ga K "missing_years") fd_missing_years
  g_shortest_list : mg "shortest_list" = some (.ref (He.ga K "shortest_list"))
  fd_shortest_list : FuncData
  F_shortest_list : FunD K "shortest_list" "shortest_list" (defArgs s_shortest_list) (defBody s_shortest_list) (defScope s_shortest_list) [] [] (He.ga K "shortest_list") fd_shortest_list
  g_fewest_steps : mg "fewest_steps" = some (.ref (He.ga K "fewest_steps"))
  fd_fewest_steps : FuncData
  F_fewest_steps : FunD K "fewest_steps" "fewest_steps" (defArgs s_fewest_steps) (defBody s_fewest_steps) (defScope s_fewest_steps) [] [] (He.ga K "fewest_steps") fd_fewest_steps
  g_law_rng : mg "_law_rng" = some (.ref (He.ga K "_law_rng"))
  fd_law_rng : FuncData
  F_law_rng : FunD K "_law_rng" "_law_rng" (defArgs s_law_rng) (defBody s_law_rng) (defScope s_law_rng) [] [] (He.ga K "_law_rng") fd_law_rng
  g_law_draw : mg "_law_draw" = some (.ref (He.ga K "_law_draw"))
  fd_law_draw : FuncData
  F_law_draw : FunD K "_law_draw" "_law_draw" (defArgs s_law_draw) (defBody s_law_draw) (defScope s_law_draw) [] [] (He.ga K "_law_draw") fd_law_draw
  g_law_one : mg "_law_one" = some (.ref (He.ga K "_law_one"))
  fd_law_one : FuncData
  F_law_one : FunD K "_law_one" "_law_one" (defArgs s_law_one) (defBody s_law_one) (defScope s_law_one) [] [] (He.ga K "_law_one") fd_law_one
  g_law_moves : mg "_law_moves" = some (.ref (He.ga K "_law_moves"))
  fd_law_moves : FuncData
  F_law_moves : FunD K "_law_moves" "_law_moves" (defArgs s_law_moves) (defBody s_law_moves) (defScope s_law_moves) [] [] (He.ga K "_law_moves") fd_law_moves
  g_law_is_leap : mg "_law_is_leap" = some (.ref (He.ga K "_law_is_leap"))
  fd_law_is_leap : FuncData
  F_law_is_leap : FunD K "_law_is_leap" "_law_is_leap" (defArgs s_law_is_leap) (defBody s_law_is_leap) (defScope s_law_is_leap) [] [] (He.ga K "_law_is_leap") fd_law_is_leap
  g_law_sums : mg "_law_sums" = some (.ref (He.ga K "_law_sums"))
  fd_law_sums : FuncData
  F_law_sums : FunD K "_law_sums" "_law_sums" (defArgs s_law_sums) (defBody s_law_sums) (defScope s_law_sums) [] [] (He.ga K "_law_sums") fd_law_sums
  g_law_masks : mg "_law_masks" = some (.ref (He.ga K "_law_masks"))
  fd_law_masks : FuncData
  F_law_masks : FunD K "_law_masks" "_law_masks" (defArgs s_law_masks) (defBody s_law_masks) (defScope s_law_masks) [] [] (He.ga K "_law_masks") fd_law_masks
  g_law_joined : mg "_law_joined" = some (.ref (He.ga K "_law_joined"))
  fd_law_joined : FuncData
  F_law_joined : FunD K "_law_joined" "_law_joined" (defArgs s_law_joined) (defBody s_law_joined) (defScope s_law_joined) [] [] (He.ga K "_law_joined") fd_law_joined
  g_law_extra : mg "_law_extra" = some (.ref (He.ga K "_law_extra"))
  fd_law_extra : FuncData
  F_law_extra : FunD K "_law_extra" "_law_extra" (defArgs s_law_extra) (defBody s_law_extra) (defScope s_law_extra) [] [] (He.ga K "_law_extra") fd_law_extra
  g_law_needs : mg "_law_needs" = some (.ref (He.ga K "_law_needs"))
  fd_law_needs : FuncData
  F_law_needs : FunD K "_law_needs" "_law_needs" (defArgs s_law_needs) (defBody s_law_needs) (defScope s_law_needs) [] [] (He.ga K "_law_needs") fd_law_needs
  g_law : mg "law" = some (.ref (He.ga K "law"))
  fd_law : FuncData
  F_law : FunD K "law" "law" (defArgs s_law) (defBody s_law) (defScope s_law) [] [] (He.ga K "law") fd_law
  b_abs : mg "abs" = none
  b_all : mg "all" = none
  b_len : mg "len" = none
  b_list : mg "list" = none
  b_min : mg "min" = none
  b_range : mg "range" = none
  b_repr : mg "repr" = none
  b_set : mg "set" = none
  b_sorted : mg "sorted" = none
  b_sum : mg "sum" = none
  b_zip : mg "zip" = none
  g_ALL_FORBIDDEN : mg "ALL_FORBIDDEN" = some (.ref (He.ga K "ALL_FORBIDDEN"))
  t_ALL_FORBIDDEN : ∀ H : Hp, SqT K H (He.ga K "ALL_FORBIDDEN") [.int (0), .int (1)]
  c_CLASSES : { t : Tok // mg "CLASSES" = some (.int (25) t) }
  c_MONTHS : { t : Tok // mg "MONTHS" = some (.int (12) t) }
  c_QUARTERS : { t : Tok // mg "QUARTERS" = some (.int (100) t) }
section
variable {P : Program} {w : World} {K : PySem.W.Frag} {mg : Str → Option Value} {base : Heap}
theorem start_sums_of (v0 : V) : L2.start N_sums_of [v0] = [some v0, none, none, none] := rfl
theorem b_sums_of (T : Txt K mg) : Binds K T.fd_sums_of ["steps"] [] := T.F_sums_of.bindsN fun _ _ _ _ _ _ us hl => match us, hl with | [_], _ => rfl
theorem start_years_by_remainder (v0 : V) : L2.start N_years_by_remainder [v0] = [some v0, none, none, none] := rfl
theorem b_years_by_remainder (T : Txt K mg) : Binds K T.fd_years_by_remainder ["sums"] [] := T.F_years_by_remainder.bindsN fun _ _ _ _ _ _ us hl => match us, hl with | [_], _ => rfl
theorem start_normal_years (v0 : V) : L2.start N_normal_years [v0] = [some v0, none, none, none, none, none, none, none, none] := rfl
theorem b_normal_years (T : Txt K mg) : Binds K T.fd_normal_years ["years"] [] := T.F_normal_years.bindsN fun _ _ _ _ _ _ us hl => match us, hl with | [_], _ => rfl
theorem start_class_of (v0 : V) : L2.start N_class_of [v0] = [some v0] := rfl
theorem b_class_of (T : Txt K mg) : Binds K T.fd_class_of ["year"] [] := T.F_class_of.bindsN fun _ _ _ _ _ _ us hl => match us, hl with | [_], _ => rfl
theorem start_missing_in_class (v0 v1 : V) : L2.start N_missing_in_class [v0, v1] = [some v0, some v1, none, none] := rfl
theorem b_missing_in_class (T : Txt K mg) : Binds K T.fd_missing_in_class ["wanted", "present"] [] := T.F_missing_in_class.bindsN fun _ _ _ _ _ _ us hl => match us, hl with | [_, _], _ => rfl
theorem start_missing_years (v0 v1 : V) : L2.start N_missing_years [v0, v1] = [some v0, some v1, none, none, none] := rfl
theorem b_missing_years (T : Txt K mg) : Binds K T.fd_missing_years ["wanted", "present"] [] := T.F_missing_years.bindsN fun _ _ _ _ _ _ us hl => match us, hl with | [_, _], _ => rfl
theorem start_shortest_list (v0 : V) : L2.start N_shortest_list [v0] = [some v0, none, none, none, none, none, none, none, none, none, none, none] := rfl
theorem b_shortest_list (T : Txt K mg) : Binds K T.fd_shortest_list ["steps"] [] := T.F_shortest_list.bindsN fun _ _ _ _ _ _ us hl => match us, hl with | [_], _ => rfl
theorem start_fewest_steps (v0 : V) : L2.start N_fewest_steps [v0] = [some v0] := rfl
theorem b_fewest_steps (T : Txt K mg) : Binds K T.fd_fewest_steps ["steps"] [] := T.F_fewest_steps.bindsN fun _ _ _ _ _ _ us hl => match us, hl with | [_], _ => rfl
theorem start_law_rng (v0 : V) : L2.start N_law_rng [v0] = [some v0, none, none, none, none] := rfl
theorem b_law_rng (T : Txt K mg) : Binds K T.fd_law_rng ["script"] [] := T.F_law_rng.bindsN fun _ _ _ _ _ _ us hl => match us, hl with | [_], _ => rfl
theorem start_law_draw (v0 v1 : V) : L2.start N_law_draw [v0, v1] = [some v0, some v1, none, none] := rfl
theorem b_law_draw (T : Txt K mg) : Binds K T.fd_law_draw ["rng", "limit"] [] := T.F_law_draw.bindsN fun _ _ _ _ _ _ us hl => match us, hl with | [_, _], _ => rfl
theorem start_law_one (v0 v1 : V) : L2.start N_law_one [v0, v1] = [some v0, some v1, none] := rfl
theorem b_law_one (T : Txt K mg) : Binds K T.fd_law_one ["rng", "kind"] [] := T.F_law_one.bindsN fun _ _ _ _ _ _ us hl => match us, hl with | [_, _], _ => rfl
theorem start_law_moves (v0 v1 : V) : L2.start N_law_moves [v0, v1] = [some v0, some v1, none, none] := rfl
theorem b_law_moves (T : Txt K mg) : Binds K T.fd_law_moves ["rng", "most"] [] := T.F_law_moves.bindsN fun _ _ _ _ _ _ us hl => match us, hl with | [_, _], _ => rfl
theorem start_law_is_leap (v0 : V) : L2.start N_law_is_leap [v0] = [some v0] := rfl
theorem b_law_is_leap (T : Txt K mg) : Binds K T.fd_law_is_leap ["year"] [] := T.F_law_is_leap.bindsN fun _ _ _ _ _ _ us hl => match us, hl with | [_], _ => rfl
theorem start_law_sums (v0 : V) : L2.start N_law_sums [v0] = [some v0, none, none] := rfl
theorem b_law_sums (T : Txt K mg) : Binds K T.fd_law_sums ["moves"] [] := T.F_law_sums.bindsN fun _ _ _ _ _ _ us hl => match us, hl with | [_], _ => rfl
theorem start_law_masks : L2.start N_law_masks [] = [none, none, none] := rfl
theorem b_law_masks (T : Txt K mg) : Binds K T.fd_law_masks [] [] := T.F_law_masks.bindsN fun _ _ _ _ _ _ us hl => match us, hl with | [], _ => rfl
theorem start_law_joined (v0 v1 : V) : L2.start N_law_joined [v0, v1] = [some v0, some v1, none, none] := rfl
theorem b_law_joined (T : Txt K mg) : Binds K T.fd_law_joined ["masks", "years"] [] := T.F_law_joined.bindsN fun _ _ _ _ _ _ us hl => match us, hl with | [_, _], _ => rfl
theorem start_law_extra (v0 v1 v2 : V) : L2.start N_law_extra [v0, v1, v2] = [some v0, some v1, some v2, none, none, none, none, none, none] := rfl
theorem b_law_extra (T : Txt K mg) : Binds K T.fd_law_extra ["masks", "wanted", "present"] [] := T.F_law_extra.bindsN fun _ _ _ _ _ _ us hl => match us, hl with | [_, _, _], _ => rfl
theorem start_law_needs (v0 v1 : V) : L2.start N_law_needs [v0, v1] = [some v0, some v1, none, none, none, none, none, none, none] := rfl
theorem b_law_needs (T : Txt K mg) : Binds K T.fd_law_needs ["masks", "moves"] [] := T.F_law_needs.bindsN fun _ _ _ _ _ _ us hl => match us, hl with | [_, _], _ => rfl
theorem start_law (v0 : V) : L2.start N_law [v0] = [some v0, none, none, none, none, none, none, none, none, none, none] := rfl
theorem b_law (T : Txt K mg) : Binds K T.fd_law ["script"] [] := T.F_law.bindsN fun _ _ _ _ _ _ us hl => match us, hl with | [_], _ => rfl
theorem kb_fewest_steps_0_steps (T : Txt K mg) : KBn K T.fd_fewest_steps ["steps"] 0 ["steps"] (gP .none [0]) (gP .non [0]) := kb_of T.F_fewest_steps fun _ _ _ _ _ _ us ws h1 h2 => match us, ws, h1, h2 with | [], [_], _, _ => rfl
end
end Mc
namespace Mc
open PySem PySem.Spec PyProof.Rows L2
local macro_rules | `(tactic| lcg_src) => `(tactic| first
  | with_reducible assumption
  | ((with_reducible apply Ne.symm); with_reducible assumption)
  | ((with_reducible apply ne_nf); (with_reducible assumption); lcg_off)
  | ((with_reducible apply Ne.symm); (with_reducible apply ne_nf); (with_reducible assumption); lcg_off))
local macro_rules | `(tactic| lcg_off) => `(tactic| first
  | with_reducible assumption
  | (with_reducible exact upd_same)
  | ((with_reducible apply hp_ne); lcg_src; lcg_off)
  | ((with_reducible apply hp_same); (with_reducible assumption); lcg_off)
  | ((with_reducible apply hp_frm); (with_reducible assumption); lcg_src; lcg_off)
  | ((with_reducible apply hp_frm2); (with_reducible assumption); lcg_src; lcg_src; lcg_off)
  | assumption)
local macro_rules | `(tactic| kpt_turns) => `(tactic| first
  | with_reducible assumption
  | ((with_reducible apply SqL.of); lcg_off)
  | ((with_reducible apply SqT.of); lcg_off)
  | ((with_reducible apply Frm.seq); (with_reducible assumption); lcg_src; kpt_turns)
  | ((with_reducible apply Frm.tup); (with_reducible assumption); lcg_src; kpt_turns)
  | ((with_reducible apply Frm2.seq); (with_reducible assumption); lcg_src; lcg_src; kpt_turns)
  | ((with_reducible apply Frm2.tup); (with_reducible assumption); lcg_src; lcg_src; kpt_turns)
  | ((with_reducible apply L2.Same.seq); (with_reducible assumption); kpt_turns)
  | ((with_reducible apply Same.tup); (with_reducible assumption); kpt_turns)
  | assumption)
local macro_rules | `(tactic| k_memK) => `(tactic| first
  | with_reducible exact Frm.refl _
  | with_reducible assumption
  | ((with_reducible apply Frm.trN); (with_reducible assumption); k_memK)
  | ((with_reducible apply Frm.trU); k_memK)
  | ((with_reducible apply Frm.trM); (with_reducible assumption); k_memK)
  | ((with_reducible apply Frm.tr); (with_reducible assumption); k_memK)
  | ((with_reducible apply Frm.trS); (with_reducible assumption); k_memK)
  | with_reducible exact Frm2.refl _
  | ((with_reducible apply Frm2.trN); (with_reducible assumption); k_memK)
  | ((with_reducible apply Frm2.trU); k_memK)
  | ((with_reducible apply Frm2.trV); k_memK)
  | ((with_reducible apply Frm2.trM); (with_reducible assumption); k_memK)
  | ((with_reducible apply Frm2.tr); (with_reducible assumption); k_memK)
  | ((with_reducible apply Frm2.trS); (with_reducible assumption); k_memK))
local macro_rules | `(tactic| k_allIn) => `(tactic| first
  | with_reducible exact L2.Same.refl _
  | with_reducible assumption
  | ((with_reducible apply same_trN); (with_reducible assumption); k_allIn)
  | ((with_reducible apply same_trU); (with_reducible assumption); k_allIn)
  | ((with_reducible apply same_tr); (with_reducible assumption); k_allIn))
local macro_rules | `(tactic| k_ownIn) => `(tactic| first
  | with_reducible refine st_seq ?_
  | ((with_reducible refine' st_setF ?e ?_); (case e => intro x; (simp only [List.set_cons_zero, List.set_cons_succ]; exact rfl)))
  | with_reducible refine st_c ?_
  | ((with_reducible refine' st_var ?h ?_); (case h => exact rfl))
  | with_reducible refine st_op ?_
  | with_reducible refine st_I0 ?_
  | ((with_reducible refine' st_powL ?c ?e ?_); (case c => exact ⟨by decide, by decide, by decide⟩); (case e => (simp only [Int.reduceToNat, Int.reducePow]; exact rfl)))
  | ((with_reducible refine st_I ?h ?_); (case h => first | with_reducible assumption | (show (0 : Int) < _; omega) | exact ⟨by omega, by omega⟩ | exact .inl ⟨by omega, by omega⟩ | exact .inr ⟨by omega, by omega⟩ | exact ⟨by omega, by omega, by omega⟩))
  | with_reducible refine st_nil ?_
  | with_reducible refine st_cons ?_
  | with_reducible refine st_ret ?_
  | with_reducible refine st_call ?_
  | with_reducible refine st_cb ?_
  | with_reducible refine st_exb ?_
  | ((with_reducible refine' st_ixL ?h1 ?h2 ?_); (case h1 => kpt_turns); (case h2 => first | ((with_reducible apply at0); exact rfl) | ((with_reducible apply at1); exact rfl) | ((with_reducible apply at2); exact rfl) | ((with_reducible apply at3); exact rfl) | with_reducible assumption))
  | ((with_reducible refine' st_ixT ?h1 ?h2 ?_); (case h1 => kpt_turns); (case h2 => first | ((with_reducible apply at0); exact rfl) | ((with_reducible apply at1); exact rfl) | ((with_reducible apply at2); exact rfl) | with_reducible assumption))
  | ((with_reducible refine' st_ixP ?h1 ?h2 ?h3 ?h4 ?_); (case h1 => kpt_turns); (case h2 => (repeat constructor)); (case h3 => omega); (case h4 => (simp; omega)))
  | ((with_reducible refine' st_ixPT ?h1 ?h2 ?h3 ?h4 ?_); (case h1 => kpt_turns); (case h2 => (repeat constructor)); (case h3 => omega); (case h4 => (simp; omega)))
  | with_reducible refine st_tB ?_
  | with_reducible refine st_test ?_
  | with_reducible refine st_and ?_
  | with_reducible refine st_or ?_
  | with_reducible refine st_not ?_
  | with_reducible refine st_andV ?_
  | with_reducible refine st_orV ?_
  | with_reducible refine st_notV ?_
  | with_reducible refine st_chain ?_
  | with_reducible refine st_iT ?_
  | with_reducible refine st_iF ?_
  | with_reducible refine st_iNT ?_
  | with_reducible refine st_iNF ?_
  | with_reducible refine st_iRf ?_
  | with_reducible refine st_iNRf ?_
  | with_reducible refine st_asg ?_
  | ((with_reducible refine' st_parF ?e ?_); (case e => intro x y; (simp only [List.set_cons_zero, List.set_cons_succ]; exact rfl)))
  | with_reducible refine st_par2 ?_
  | with_reducible refine st_fst ?_
  | with_reducible refine st_jsE ?_
  | with_reducible refine st_js ?_
  | with_reducible refine st_fmt ?_
  | with_reducible refine st_joinK ?_
  | with_reducible refine st_strx ?_
  | ((with_reducible refine' st_par3F ?e ?_); (case e => intro x y z; (simp only [List.set_cons_zero, List.set_cons_succ]; exact rfl)))
  | with_reducible refine st_par3 ?_
  | ((with_reducible refine' st_augF ?h ?e ?_); (case h => exact rfl); (case e => intro x; (simp only [List.set_cons_zero, List.set_cons_succ]; exact rfl)))
  | with_reducible refine st_ipI ?_
  | with_reducible refine st_drop ?_
  | with_reducible refine st_next ?_
  | with_reducible refine st_un ?_
  | with_reducible refine st_U ?_
  | ((with_reducible refine' st_gNF ?e ?_); (case e => (simp only [List.set_cons_zero, List.set_cons_succ]; exact rfl)))
  | with_reducible refine st_gN ?_
  | ((with_reducible refine' st_gT ?h1 ?h2 ?_); (case h1 => kpt_turns); (case h2 => exact rfl))
  | with_reducible refine st_gC ?_
  | with_reducible refine st_gE ?_
  | with_reducible refine st_gS ?_
  | ((with_reducible refine' st_setL ?h1 ?h2 ?_); (case h1 => lcg_off); (case h2 => exact rfl))
  | with_reducible refine st_lst ?_
  | with_reducible refine st_tup ?_
  | ((with_reducible refine st_new ?h ?_); (case h => (simp; done)))
  | with_reducible refine st_callN ?_
  | with_reducible refine st_bm ?_
  | with_reducible refine st_bm0 ?_
  | ((with_reducible refine' st_tyL ?h ?_); (case h => kpt_turns))
  | ((with_reducible refine st_eq ?h ?_); (case h => exact rfl))
  | ((with_reducible refine st_ne ?h ?_); (case h => exact rfl))
  | with_reducible refine st_i1 ?_
  | with_reducible refine st_i2 ?_
  | with_reducible refine st_int ?_
  | with_reducible refine st_intb ?_
  | ((with_reducible refine' st_lenQ ?h ?_); (case h => kpt_turns))
  | ((with_reducible refine' st_lenQT ?h ?_); (case h => kpt_turns))
  | with_reducible refine st_yes ?_
  | with_reducible refine st_brk ?_
  | with_reducible refine st_cont ?_
  | with_reducible refine st_retN ?_
  | with_reducible refine st_forI ?_
  | with_reducible refine st_lcI ?_
  | with_reducible refine st_itL ?_
  | with_reducible refine st_itT ?_
  | with_reducible refine st_rng1 ?_
  | with_reducible refine st_rng2 ?_
  | with_reducible refine st_ref ?_
  | with_reducible refine st_sl ?_
  | with_reducible refine st_pN ?_
  | with_reducible refine st_pS ?_
  | with_reducible refine st_pI ?_
  | (refine ⟨rfl, ?_⟩))
local macro_rules | `(tactic| cell_call) => `(tactic| first
  | with_reducible refine st_seq ?_
  | ((with_reducible refine' st_setF ?e ?_); (case e => intro x; (simp only [List.set_cons_zero, List.set_cons_succ]; exact rfl)))
  | with_reducible refine st_c ?_
  | ((with_reducible refine' st_var ?h ?_); (case h => exact rfl))
  | with_reducible refine st_op ?_
  | with_reducible refine st_I0 ?_
  | ((with_reducible refine' st_powL ?c ?e ?_); (case c => exact ⟨by decide, by decide, by decide⟩); (case e => (simp only [Int.reduceToNat, Int.reducePow]; exact rfl)))
  | ((with_reducible refine st_I ?h ?_); (case h => first | with_reducible assumption | (show (0 : Int) < _; omega) | exact ⟨by omega, by omega⟩ | exact .inl ⟨by omega, by omega⟩ | exact .inr ⟨by omega, by omega⟩ | exact ⟨by omega, by omega, by omega⟩))
  | with_reducible refine st_nil ?_
  | with_reducible refine st_cons ?_
  | with_reducible refine st_ret ?_
  | with_reducible refine st_call ?_
  | with_reducible refine st_cb ?_
  | with_reducible refine st_exb ?_
  | ((with_reducible refine' st_ixL ?h1 ?h2 ?_); (case h1 => kpt_turns); (case h2 => first | ((with_reducible apply at0); exact rfl) | ((with_reducible apply at1); exact rfl) | ((with_reducible apply at2); exact rfl) | ((with_reducible apply at3); exact rfl) | with_reducible assumption))
  | ((with_reducible refine' st_ixT ?h1 ?h2 ?_); (case h1 => kpt_turns); (case h2 => first | ((with_reducible apply at0); exact rfl) | ((with_reducible apply at1); exact rfl) | ((with_reducible apply at2); exact rfl) | with_reducible assumption))
  | ((with_reducible refine' st_ixP ?h1 ?h2 ?h3 ?h4 ?_); (case h1 => kpt_turns); (case h2 => (repeat constructor)); (case h3 => omega); (case h4 => (simp; omega)))
  | ((with_reducible refine' st_ixPT ?h1 ?h2 ?h3 ?h4 ?_); (case h1 => kpt_turns); (case h2 => (repeat constructor)); (case h3 => omega); (case h4 => (simp; omega)))
  | with_reducible refine st_tB ?_
  | with_reducible refine st_test ?_
  | with_reducible refine st_and ?_
  | with_reducible refine st_or ?_
  | with_reducible refine st_not ?_
  | with_reducible refine st_andV ?_
  | with_reducible refine st_orV ?_
  | with_reducible refine st_notV ?_
  | with_reducible refine st_chain ?_
  | with_reducible refine st_iT ?_
  | with_reducible refine st_iF ?_
  | with_reducible refine st_iNT ?_
  | with_reducible refine st_iNF ?_
  | with_reducible refine st_iRf ?_
  | with_reducible refine st_iNRf ?_
  | with_reducible refine st_asg ?_
  | ((with_reducible refine' st_parF ?e ?_); (case e => intro x y; (simp only [List.set_cons_zero, List.set_cons_succ]; exact rfl)))
  | with_reducible refine st_par2 ?_
  | with_reducible refine st_fst ?_
  | with_reducible refine st_jsE ?_
  | with_reducible refine st_js ?_
  | with_reducible refine st_fmt ?_
  | with_reducible refine st_joinK ?_
  | with_reducible refine st_strx ?_
  | ((with_reducible refine' st_par3F ?e ?_); (case e => intro x y z; (simp only [List.set_cons_zero, List.set_cons_succ]; exact rfl)))
  | with_reducible refine st_par3 ?_
  | ((with_reducible refine' st_augF ?h ?e ?_); (case h => exact rfl); (case e => intro x; (simp only [List.set_cons_zero, List.set_cons_succ]; exact rfl)))
  | with_reducible refine st_ipI ?_
  | with_reducible refine st_drop ?_
  | with_reducible refine st_next ?_
  | with_reducible refine st_un ?_
  | with_reducible refine st_U ?_
  | ((with_reducible refine' st_gNF ?e ?_); (case e => (simp only [List.set_cons_zero, List.set_cons_succ]; exact rfl)))
  | with_reducible refine st_gN ?_
  | ((with_reducible refine' st_gT ?h1 ?h2 ?_); (case h1 => kpt_turns); (case h2 => exact rfl))
  | with_reducible refine st_gC ?_
  | with_reducible refine st_gE ?_
  | with_reducible refine st_gS ?_
  | ((with_reducible refine' st_setL ?h1 ?h2 ?_); (case h1 => lcg_off); (case h2 => exact rfl))
  | with_reducible refine st_lst ?_
  | with_reducible refine st_tup ?_
  | ((with_reducible refine st_new ?h ?_); (case h => (simp; done)))
  | with_reducible refine st_callN ?_
  | with_reducible refine st_bm ?_
  | with_reducible refine st_bm0 ?_
  | ((with_reducible refine' st_tyL ?h ?_); (case h => kpt_turns))
  | ((with_reducible refine st_eq ?h ?_); (case h => exact rfl))
  | ((with_reducible refine st_ne ?h ?_); (case h => exact rfl))
  | with_reducible refine st_i1 ?_
  | with_reducible refine st_i2 ?_
  | with_reducible refine st_int ?_
  | with_reducible refine st_intb ?_
  | ((with_reducible refine' st_lenQ ?h ?_); (case h => kpt_turns))
  | ((with_reducible refine' st_lenQT ?h ?_); (case h => kpt_turns))
  | with_reducible refine st_yes ?_
  | with_reducible refine st_brk ?_
  | with_reducible refine st_cont ?_
  | with_reducible refine st_retN ?_
  | with_reducible refine st_forI ?_
  | with_reducible refine st_lcI ?_
  | with_reducible refine st_itL ?_
  | with_reducible refine st_itT ?_
  | with_reducible refine st_rng1 ?_
  | with_reducible refine st_rng2 ?_
  | with_reducible refine st_ref ?_
  | with_reducible refine st_sl ?_
  | with_reducible refine st_pN ?_
  | with_reducible refine st_pS ?_
  | with_reducible refine st_pI ?_
  | (refine ⟨rfl, ?_⟩)
  | with_reducible refine st_ifE ?_
  | with_reducible refine st_ifS ?_)
local macro_rules | `(tactic| kpf_close) => `(tactic| first
  | cell_call
  | refine st_iD (fun _ => ?_) (fun _ => ?_)
  | refine st_iND (fun _ => ?_) (fun _ => ?_)
  | refine st_iNB (fun _ => ?_) (fun _ => ?_)
  | refine st_iB (fun _ => ?_) (fun _ => ?_))
local macro_rules | `(tactic| k_places) => `(tactic| first
  | with_reducible refine isi_non_bool ?_
  | with_reducible refine isi_non_int ?_
  | with_reducible refine isi_non_str ?_
  | with_reducible refine isi_non_list ?_
  | with_reducible refine isi_non_tuple ?_
  | with_reducible refine isi_bl_bool ?_
  | with_reducible refine isi_bl_int ?_
  | with_reducible refine isi_bl_str ?_
  | with_reducible refine isi_bl_list ?_
  | with_reducible refine isi_bl_tuple ?_
  | with_reducible refine isi_int_bool ?_
  | with_reducible refine isi_int_int ?_
  | with_reducible refine isi_int_str ?_
  | with_reducible refine isi_int_list ?_
  | with_reducible refine isi_int_tuple ?_
  | with_reducible refine isi_str_bool ?_
  | with_reducible refine isi_str_int ?_
  | with_reducible refine isi_str_str ?_
  | with_reducible refine isi_str_list ?_
  | with_reducible refine isi_str_tuple ?_
  | ((with_reducible refine' isi_list_bool ?h ?_); (case h => kpt_turns))
  | ((with_reducible refine' isi_list_int ?h ?_); (case h => kpt_turns))
  | ((with_reducible refine' isi_list_str ?h ?_); (case h => kpt_turns))
  | ((with_reducible refine' isi_list_list ?h ?_); (case h => kpt_turns))
  | ((with_reducible refine' isi_list_tuple ?h ?_); (case h => kpt_turns))
  | ((with_reducible refine' isi_tuple_bool ?h ?_); (case h => kpt_turns))
  | ((with_reducible refine' isi_tuple_int ?h ?_); (case h => kpt_turns))
  | ((with_reducible refine' isi_tuple_str ?h ?_); (case h => kpt_turns))
  | ((with_reducible refine' isi_tuple_list ?h ?_); (case h => kpt_turns))
  | ((with_reducible refine' isi_tuple_tuple ?h ?_); (case h => kpt_turns)))
local macro_rules | `(tactic| cell_call) => `(tactic| first
  | with_reducible refine st_zip ?_)
local macro_rules | `(tactic| k_ownIn) => `(tactic| first
  | with_reducible refine st_zip ?_)
local macro_rules | `(tactic| cell_call) => `(tactic| first
  | with_reducible refine st_disp ?_
  | with_reducible refine st_pr ?_
  | with_reducible refine st_prE ?_
  | with_reducible refine st_dget ?_
  | with_reducible refine st_dput ?_
  | with_reducible refine st_daug ?_
  | ((with_reducible refine' st_bgG ?h ?_); (case h => lcg_off))
  | ((with_reducible refine' st_bgL ?h ?_); (case h => lcg_off))
  | ((with_reducible refine' st_bgT ?h ?_); (case h => lcg_off))
  | ((with_reducible refine' st_bgF ?h ?_); (case h => lcg_off))
  | ((with_reducible refine' st_bpL ?h ?_); (case h => lcg_off)))
local macro_rules | `(tactic| k_ownIn) => `(tactic| first
  | with_reducible refine st_disp ?_
  | with_reducible refine st_pr ?_
  | with_reducible refine st_prE ?_
  | with_reducible refine st_dget ?_
  | with_reducible refine st_dput ?_
  | with_reducible refine st_daug ?_
  | ((with_reducible refine' st_bgG ?h ?_); (case h => lcg_off))
  | ((with_reducible refine' st_bgL ?h ?_); (case h => lcg_off))
  | ((with_reducible refine' st_bgT ?h ?_); (case h => lcg_off))
  | ((with_reducible refine' st_bgF ?h ?_); (case h => lcg_off))
  | ((with_reducible refine' st_bpL ?h ?_); (case h => lcg_off)))
local macro_rules | `(tactic| cell_call) => `(tactic| first
  | with_reducible refine st_veI ?_
  | with_reducible refine st_ost ?_
  | with_reducible refine st_mko ?_
  | with_reducible refine st_xv ?_
  | with_reducible refine st_lrg ?_
  | with_reducible refine st_callS ?_
  | with_reducible refine st_rg2 ?_
  | with_reducible refine st_rgE ?_)
local macro_rules | `(tactic| k_ownIn) => `(tactic| first
  | with_reducible refine st_veI ?_
  | with_reducible refine st_ost ?_
  | with_reducible refine st_mko ?_
  | with_reducible refine st_xv ?_
  | with_reducible refine st_lrg ?_
  | with_reducible refine st_callS ?_
  | with_reducible refine st_rg2 ?_
  | with_reducible refine st_rgE ?_)
local macro_rules | `(tactic| cell_call) => `(tactic| first
  | with_reducible refine st_inC ?_
  | with_reducible refine st_itS ?_
  | with_reducible refine st_itS1 ?_)
local macro_rules | `(tactic| k_ownIn) => `(tactic| first
  | with_reducible refine st_inC ?_
  | with_reducible refine st_itS ?_
  | with_reducible refine st_itS1 ?_)
local macro_rules | `(tactic| cell_call) => `(tactic| first
  | with_reducible refine st_frz ?_
  | with_reducible refine st_itI ?_
  | with_reducible refine st_dg2 ?_
  | with_reducible refine st_dput ?_
  | with_reducible refine st_scI ?_)
local macro_rules | `(tactic| cell_call) => `(tactic| first
  | with_reducible refine st_revI ?_)
local macro_rules | `(tactic| k_ownIn) => `(tactic| first
  | with_reducible refine st_revI ?_)
local macro_rules | `(tactic| cell_call) => `(tactic| first
  | with_reducible refine st_frzA ?_
  | with_reducible refine st_itK ?_)
local macro_rules | `(tactic| k_ownIn) => `(tactic| first
  | with_reducible refine st_frzA ?_
  | with_reducible refine st_itK ?_)
section
variable {P : Program} {w : World} {K : PySem.W.Frag} {mg : Str → Option Value} {base : Heap}
def sp_sums_of (K : PySem.W.Frag) : Sp := fun vs H Q _ => ∃ (L : Addr) (ns : List Int), vs = [.ref L] ∧ SqL K H L (ns.map V.int) ∧ ns.length ≤ 3000 ∧
  ∀ p H', H p = none → Same H H' → H' p = some (.lst ((srt (sms ns)).map V.int)) → Q (.ref p) H'
theorem ok_sums_of (T : Txt K mg) : FnOk P w K mg base CX0 1 (He.ga K "sums_of") T.fd_sums_of ["steps"] (sp_sums_of K) := by
  refine T.F_sums_of.ok sc_sums_of (fun vs H Q E h => ?_) (fun cdv A outer s H vs Q E hr h => ?_)
  · obtain ⟨L, ns, rfl, _⟩ := h
    rfl
  · obtain ⟨L, ns, rfl, hL, hl, q⟩ := h
    refine ⟨_, PSs.nox (pss_cons (ps_set (i := 1) sc_sums_of.nd rfl (Or.inl rfl) pe_int)
      (pss_cons (ps_set (i := 2) sc_sums_of.nd rfl (Or.inl rfl) (pe_lst (pa_cons pe_int pa_nil)))
      (pss_cons (ps_for PassesOwn.never rfl (show PI _ _ _ (iList K _) from pi_list (pv 0)) (pg_name (i := 3) sc_sums_of.nd rfl (Or.inl rfl)) (pss_cons (ps_aug (i := 1) sc_sums_of.nd rfl (Or.inl rfl) (pv 3) ip_add)
      (pss_one (ps_expr (show PE _ _ (tBM K _ _ _ _) from pe_bm PySem.F.plainAttrs_list PySem.F.slot_list_append PySem.F.type_list_append mt_append (pv 2) (pa_cons (pv 1) pa_nil))))))
      (pss_one (ps_ret (pe_callB (show CallR _ _ (rSortS w) from (cr_sortS rfl)) (by rfl) T.b_sorted (by decide +kernel) (pa_cons (pe_callTy (show CallR _ _ (rSetI K w) from (cr_setI rfl)) (by rfl) T.b_set (by decide +kernel) (pa_cons (pv 2) pa_nil)) pa_nil))))))), ?_⟩
    rw [start_sums_of]
    repeat cell_call
    intro F nF
    have s0 : Same H (upd H F (.lst [.int 0])) := Same.new nF
    repeat cell_call
    refine ⟨⟨_, s0.seq hL⟩, fL (xs := ns.map V.int) (fun i σ' H' => Same H H' ∧ ∃ x, σ' = [some (.ref L), some (.int (ns.take i).sum), some (.ref F), x] ∧ H' F = some (.lst ((sms (ns.take i)).map V.int)))
      ⟨s0, none, rfl, upd_same⟩ (fun i σ' H' _ e => e.1.seq hL) (fun i x σ' H' hx e => ?_) (fun σ' H' e => ?_)⟩
    · obtain ⟨sm, z, rfl, hF⟩ := e
      obtain ⟨k, hk, rfl⟩ := int_at hx
      repeat cell_call
      refine st_app hF (by rw [List.length_map, sms_len, List.length_take]; omega) ?_
      refine ⟨same_trU nF sm, some (.int k), ?_, ?_⟩
      · rw [sum_take hk]
      · rw [upd_same, sms_take hk, List.map_append]
        rfl
    · obtain ⟨sm, z, rfl, hF⟩ := e
      rw [List.length_map, List.take_length] at hF
      repeat cell_call
      refine st_setI (SqL.of hF) (by rw [sms_len]; omega) fun S c nS => ?_
      repeat cell_call
      refine st_sortS upd_same fun p np => ?_
      exact q p _ (same_free np (same_trN nS sm)) (same_trN np (same_trN nS sm)) upd_same

def sp_years_by_remainder (K : PySem.W.Frag) : Sp := fun vs H Q _ => ∃ (L : Addr) (ns : List Int), vs = [.ref L] ∧ SqL K H L (ns.map V.int) ∧ ns.length ≤ 3001 ∧
  ∀ d es gs H', H d = none → Same H H' → H' d = some (.dK es) → DG H' es gs → Grp gs ns → (∀ k a, (k, V.ref a) ∈ es → H a = none) → Q (.ref d) H'
theorem gs_le {gs : List (Int × List Int)} {p : List Int} (G : Grp gs p) : gs.length ≤ 12 := by
  have h : (gs.map (·.1)).Perm ((rgN 12).filter fun r => decide (r ∈ gs.map (·.1))) := (List.perm_ext_iff_of_nodup G.nd (List.Pairwise.filter _ (by decide))).mpr fun r => by
    rw [List.mem_filter, decide_eq_true_eq]
    refine ⟨fun hr => ⟨?_, hr⟩, fun z => z.2⟩
    obtain ⟨g, hg, rfl⟩ := List.mem_map.mp hr
    exact mem_rgN.mpr ⟨(G.is g hg).1, (G.is g hg).2.1⟩
  have e := h.length_eq
  have l := List.length_filter_le (fun r => decide (r ∈ gs.map (·.1))) (rgN 12)
  rw [List.length_map] at e
  have l12 : (rgN 12).length = 12 := rfl
  omega
theorem yrs_le (p : List Int) (r : Int) : (yrs p r).length ≤ p.length := by
  unfold yrs
  rw [List.length_map]
  exact List.length_filter_le _ _
theorem ok_years_by_remainder (T : Txt K mg) : FnOk P w K mg base CX0 1 (He.ga K "years_by_remainder") T.fd_years_by_remainder ["sums"] (sp_years_by_remainder K) := by
  refine T.F_years_by_remainder.ok sc_years_by_remainder (fun vs H Q E h => ?_) (fun cdv A outer s H vs Q E hr h => ?_)
  · obtain ⟨L, ns, rfl, _⟩ := h
    rfl
  · obtain ⟨L, ns, rfl, hL, hl, q⟩ := h
    refine ⟨_, PSs.nox (pss_cons (ps_set (i := 1) sc_years_by_remainder.nd rfl (Or.inl rfl) pe_dnewK)
      (pss_cons (ps_for PassesOwn.never rfl (show PI _ _ _ (iList K _) from pi_list (pv 0)) (pg_name (i := 2) sc_years_by_remainder.nd rfl (Or.inl rfl)) (pss_cons (ps_set (i := 3) sc_years_by_remainder.nd rfl (Or.inl rfl) (pe_op op_mod (pv 2) (pe_glob (v := .int (12)) rfl T.c_MONTHS.2 ⟨_, rfl⟩)))
      (pss_one (ps_dput (hu_of hr) (pv 1) (pv 3) (pe_op op_cat (pe_dget2 (hu_of hr) (pv 1) (pv 3) (pe_lst pa_nil) ⟨rfl, rfl, rfl, rfl⟩) (pe_lst (pa_cons (pe_op op_fdiv (pv 2) (pe_glob (v := .int (12)) rfl T.c_MONTHS.2 ⟨_, rfl⟩)) pa_nil))) rfl))))
      (pss_one (ps_ret (pv 1))))), ?_⟩
    rw [start_years_by_remainder]
    repeat cell_call
    intro D nD
    have s0 : Same H (upd H D (.dK [])) := Same.new nD
    repeat cell_call
    refine ⟨⟨_, s0.seq hL⟩, fL (xs := ns.map V.int) (fun i σ' H' => Same H H' ∧ ∃ x y es gs, σ' = [some (.ref L), some (.ref D), x, y] ∧ H' D = some (.dK es) ∧ DG H' es gs ∧ Grp gs (ns.take i) ∧ ∀ k a, (k, V.ref a) ∈ es → H a = none)
      ⟨s0, none, none, [], [], rfl, upd_same, .nil, Grp.nil, fun _ _ m => (by cases m)⟩ (fun i σ' H' _ e => e.1.seq hL) (fun i x σ' H' hx e => ?_) (fun σ' H' e => ?_)⟩
    · obtain ⟨sm, x', y', es, gs, rfl, hD, dg, G, nw⟩ := e
      obtain ⟨k, hk, rfl⟩ := int_at hx
      have hi := (List.getElem?_eq_some_iff.mp hk).1
      have gl := gs_le G
      have el := dg.len
      have yl := yrs_le (ns.take i) (k % 12)
      rw [List.length_take] at yl
      repeat cell_call
      refine ⟨.inl ⟨es, .inl hD⟩, ?_⟩
      repeat cell_call
      intro E nE
      have hD1 := hp_ne (o' := .lst []) (ne_of_none hD nE) hD
      have dg1 := dg.same (Same.new (o := .lst []) nE)
      have hE : (upd H' E (.lst [])) E = some (.lst []) := upd_same
      have sm1 : Same H (upd H' E (.lst [])) := same_trN nE sm
      generalize upd H' E (.lst []) = H1 at *
      clear nE hD dg sm
      refine ⟨_, DGet.k (k := .inl (k % 12)) hD1, ?_⟩
      -- what the dict holds, or the new list
      have val : ∃ a, (valV es (.inl (k % 12))).getD (.ref E) = .ref a ∧ H1 a = some (.lst ((yrs (ns.take i) (k % 12)).map V.int)) := by
        rcases dg1.val (k % 12) with ⟨h1, h2⟩ | ⟨a, g, h1, h2, h3, h4⟩
        · refine ⟨E, by rw [h1]; rfl, ?_⟩
          rw [G.none h2]
          exact hE
        · refine ⟨a, by rw [h1]; rfl, ?_⟩
          rw [(G.is g h2).2.2.1, h3] at h4
          exact h4
      obtain ⟨a, ea, ha⟩ := val
      rw [ea]
      clear hE ea
      repeat cell_call
      intro F nF
      have hD2 := hp_ne (o' := .lst [.int (k / 12)]) (ne_of_none hD1 nF) hD1
      have ha2 := hp_ne (o' := .lst [.int (k / 12)]) (ne_of_none ha nF) ha
      have dg2 := dg1.same (Same.new (o := .lst [.int (k / 12)]) nF)
      have hF : (upd H1 F (.lst [.int (k / 12)])) F = some (.lst [.int (k / 12)]) := upd_same
      have sm2 : Same H (upd H1 F (.lst [.int (k / 12)])) := same_trN nF sm1
      generalize upd H1 F (.lst [.int (k / 12)]) = H2 at *
      clear nF hD1 dg1 sm1 ha
      refine st_catI (ms := [k / 12]) ha2 hF (by show (yrs (ns.take i) (k % 12)).length + 1 < 100000; omega) fun C nC => ?_
      have hD3 := hp_ne (o' := .lst ((yrs (ns.take i) (k % 12) ++ [k / 12]).map V.int)) (ne_of_none hD2 nC) hD2
      have dg3 := dg2.same (Same.new (o := .lst ((yrs (ns.take i) (k % 12) ++ [k / 12]).map V.int)) nC)
      have hC : (upd H2 C (.lst ((yrs (ns.take i) (k % 12) ++ [k / 12]).map V.int))) C = _ := upd_same
      have sm3 : Same H (upd H2 C (.lst ((yrs (ns.take i) (k % 12) ++ [k / 12]).map V.int))) := same_trN nC sm2
      have nC0 : H C = none := same_free nC sm2
      generalize upd H2 C (.lst ((yrs (ns.take i) (k % 12) ++ [k / 12]).map V.int)) = H3 at *
      clear nC hD2 dg2 sm2 ha2 hF
      repeat cell_call
      refine ⟨D, _, rfl, DPut.k (k := .inl (k % 12)) hD3 (by rw [sizeLine_eq]; omega), ?_⟩
      have keep : ∀ b xs, H3 b = some (.lst xs) → (upd H3 D (.dK (putK es (.inl (k % 12)) (.ref C)))) b = some (.lst xs) := fun b xs e => hp_ne (fun z => by rw [z, hD3] at e; cases e) e
      refine ⟨same_trU nD sm3, _, _, _, _, rfl, upd_same, (dg3.put hC).off keep, ?_, fun k' a' m => ?_⟩
      · have g2 := G.put k
        rw [List.take_add_one, hk]
        exact g2
      · rcases mem_putK m with m | m
        · exact nw k' a' m
        · cases m
          exact nC0
    · obtain ⟨sm, x', y', es, gs, rfl, hD, dg, G, nw⟩ := e
      rw [List.length_map, List.take_length] at G
      repeat cell_call
      exact q D es gs _ nD sm hD dg G nw

def sp_normal_years (K : PySem.W.Frag) : Sp := fun vs H Q _ => ∃ (L : Addr) (ys : List Int), vs = [.ref L] ∧ SqL K H L (ys.map V.int) ∧ ys ≠ [] ∧ ys.length ≤ 3001 ∧
  ∀ p H', H p = none → Same H H' → H' p = some (.lst ((nY (ys.headD 0 % 4) ys).map V.int)) → Q (.ref p) H'
theorem ne_cons {ys : List Int} (h : ys ≠ []) : ∃ y0 yt, ys = y0 :: yt := by
  match ys, h with
  | a :: b, _ => exact ⟨a, b, rfl⟩
theorem ok_normal_years (T : Txt K mg) : FnOk P w K mg base CX0 1 (He.ga K "normal_years") T.fd_normal_years ["years"] (sp_normal_years K) := by
  refine T.F_normal_years.ok sc_normal_years (fun vs H Q E h => ?_) (fun cdv A outer s H vs Q E hr h => ?_)
  · obtain ⟨L, ys, rfl, _⟩ := h
    rfl
  · obtain ⟨L, ys, rfl, hL, hne, hl, q⟩ := h
    refine ⟨_, PSs.nox (pss_cons (ps_set (i := 1) sc_normal_years.nd rfl (Or.inr rfl) (pe_op op_mod (pe_ix (show IxR _ (rIxL K) from ix_list) (pv 0) pe_int (fun _ _ => rfl)) pe_int))
      (pss_cons (ps_if (pt_not (pt_val (pe_callB (show CallR _ _ (rAll K) from (cr_all rfl)) (by rfl) T.b_all (by decide +kernel) (pa_cons (pe_lc (own := [("year", 7)]) (g := gName 7) (tt := tYes) rfl sc_normal_years.nd (show PI _ _ _ (iList K _) from pi_list (pv 0)) (blkOk_by (N := N_normal_years) (sc := defScope s_normal_years) (by decide +kernel)) (fun _ _ _ _ _ => (pg_name (i := 7) sc_normal_years.nd rfl (Or.inl rfl))) (fun _ _ _ _ _ => pts_nil) (fun _ _ _ _ _ => (pe_cmpR op_eqI (pe_op op_mod (pv 7) pe_int) (pv 1) (nomark _)))) pa_nil)))) (pss_one (ps_ret (pe_callTy (show CallR _ _ (rListQ K) from call_listQ) (by rfl) T.b_list (by decide +kernel) (pa_cons (pe_glob (v := .ref (He.ga K "ALL_FORBIDDEN")) rfl T.g_ALL_FORBIDDEN rfl) pa_nil)))) pss_nil)
      (pss_cons (ps_set (i := 2) sc_normal_years.nd rfl (Or.inl rfl) (pe_callB (show CallR _ _ (rSortS w) from (cr_sortS rfl)) (by rfl) T.b_sorted (by decide +kernel) (pa_cons (pe_scI (own := [("year", 7)]) (g := gName 7) (tt := tYes) rfl sc_normal_years.nd (show PI _ _ _ (iList K _) from pi_list (pv 0)) (blkOk_by (N := N_normal_years) (sc := defScope s_normal_years) (by decide +kernel)) (fun _ _ _ _ _ => (pg_name (i := 7) sc_normal_years.nd rfl (Or.inl rfl))) (fun _ _ _ _ _ => pts_nil) (fun _ _ _ _ _ => (pe_op op_mod (pe_op op_fdiv (pv 7) pe_int) (pe_glob (v := .int (100)) rfl T.c_QUARTERS.2 ⟨_, rfl⟩)))) pa_nil)))
      (pss_cons (ps_set (i := 3) sc_normal_years.nd rfl (Or.inl rfl) (pe_lst pa_nil))
      (pss_cons (ps_for PassesOwn.never rfl (pi_range1 (by rfl) T.b_range (pa_cons (pe_glob (v := .int (25)) rfl T.c_CLASSES.2 ⟨_, rfl⟩) pa_nil)) (pg_name (i := 4) sc_normal_years.nd rfl (Or.inr rfl)) (pss_cons (ps_setLc (i := 5) (own := [("quarter", 8)]) (g := gName 8) rfl sc_normal_years.nd rfl rfl (sw_true rfl rfl rfl (by decide +kernel)) (show PI _ _ _ (iList K _) from pi_list (pv 2)) (blkOk_by (N := N_normal_years) (sc := defScope s_normal_years) (by decide +kernel)) (fun _ _ _ _ _ => (pg_name (i := 8) sc_normal_years.nd rfl (Or.inl rfl))) (fun _ _ _ _ _ => (pts_one (pt_cmpR op_eqI (pe_op op_mod (pv 8) (pe_glob (v := .int (25)) rfl T.c_CLASSES.2 ⟨_, rfl⟩)) (pv 4) (nomark _)))) (fun _ _ _ _ _ => (pv 8)))
      (pss_cons (ps_set (i := 6) sc_normal_years.nd rfl (Or.inl rfl) (pe_ifExp (pt_cmpR op_lt (pe_callB (show CallR _ _ (rLenQ K) from call_lenQ) (by rfl) T.b_len PySem.boot_len (pa_cons (pv 5) pa_nil)) pe_int (nomark _)) (pv 5) (pe_lst (pa_cons (pv 4) (pa_cons (pe_op op_add (pv 4) (pe_glob (v := .int (25)) rfl T.c_CLASSES.2 ⟨_, rfl⟩)) pa_nil)))))
      (pss_one (ps_expr (show PE _ _ (tBM K _ _ _ _) from pe_bm PySem.F.plainAttrs_list PySem.F.slot_list_extend PySem.F.type_list_extend mt_extend (pv 3) (pa_cons (pe_lc (own := [("quarter", 8)]) (g := gName 8) (tt := tYes) rfl sc_normal_years.nd (show PI _ _ _ (iList K _) from pi_list (pv 6)) (blkOk_by (N := N_normal_years) (sc := defScope s_normal_years) (by decide +kernel)) (fun _ _ _ _ _ => (pg_name (i := 8) sc_normal_years.nd rfl (Or.inl rfl))) (fun _ _ _ _ _ => pts_nil) (fun _ _ _ _ _ => (pe_op op_add (pv 1) (pe_op op_mul pe_int (pv 8))))) pa_nil)))))))
      (pss_one (ps_ret (pe_ifExp (pt_cmpR op_lt (pe_callB (show CallR _ _ (rLenQ K) from call_lenQ) (by rfl) T.b_len PySem.boot_len (pa_cons (pv 3) pa_nil)) (pe_op op_mul pe_int (pe_glob (v := .int (25)) rfl T.c_CLASSES.2 ⟨_, rfl⟩)) (nomark _)) (pv 3) (pe_callTy (show CallR _ _ (rListQ K) from call_listQ) (by rfl) T.b_list (by decide +kernel) (pa_cons (pe_glob (v := .ref (He.ga K "ALL_FORBIDDEN")) rfl T.g_ALL_FORBIDDEN rfl) pa_nil)))))))))), ?_⟩
    rw [start_normal_years]
    obtain ⟨y0, yt, rfl⟩ := ne_cons hne
    have eH : (y0 :: yt).headD 0 = y0 := rfl
    rw [eH] at q
    repeat cell_call
    refine ⟨⟨_, hL⟩, fun C nC => ?_⟩
    refine lcV (ns := y0 :: yt) (fun _ => true) (fun y => .bl (decide (y % 4 = y0 % 4))) hL nC (by omega) (fun k H' R RF _ sm hy _ => ?_) (fun H1 sm hC => ?_)
    · repeat cell_call
      exact hy rfl _ (Same.refl _)
    rw [filter_true, show ((y0 :: yt).map fun y => V.bl (decide (y % 4 = y0 % 4))) = ((y0 :: yt).map fun y => decide (y % 4 = y0 % 4)).map V.bl by rw [List.map_map]; rfl] at hC
    repeat cell_call
    refine st_allI (SqL.of hC) ?_
    have ea : ((y0 :: yt).map fun y => decide (y % 4 = y0 % 4)).all id = (y0 :: yt).all fun y => decide (y % 4 = y0 % 4) := by
      rw [List.all_map]
      rfl
    rw [ea]
    have hL1 := sm.seq hL
    clear hC nC ea eH hne
    unfold nY at q
    generalize y0 :: yt = ys at *
    repeat cell_call
    refine st_iNB (fun ha => ?_) (fun ha => ?_)
    · rw [ha, if_neg Bool.false_ne_true] at q
      repeat cell_call
      refine st_listT (T.t_ALL_FORBIDDEN _) fun p np => ?_
      exact q p _ (same_free np sm) (same_trN np sm) upd_same
    · rw [ha, if_pos rfl] at q
      repeat cell_call
      refine ⟨⟨_, hL1⟩, fun D nD => ?_⟩
      refine scFM (fun y => y / 4 % 100) hL1 nD (by omega) (fun k H' R RF _ sm2 hy => ?_) (fun H2 c sm2 hD => ?_)
      · repeat cell_call
        exact hy _ (Same.refl _)
      repeat cell_call
      refine st_sortS hD fun U nU => ?_
      have sm3 := same_trN (o := .lst ((srt (ys.map fun y => y / 4 % 100)).map V.int)) nU (same_tr sm2 sm)
      have hU : (upd H2 U (.lst ((srt (ys.map fun y => y / 4 % 100)).map V.int))) U = some (.lst ((srt (ys.map fun y => y / 4 % 100)).map V.int)) := upd_same
      have ql : (srt (ys.map fun y => y / 4 % 100)).length ≤ 3001 := by
        have := srt_len (ys.map fun y => y / 4 % 100)
        rw [List.length_map] at this
        omega
      generalize upd H2 U (.lst ((srt (ys.map fun y => y / 4 % 100)).map V.int)) = H3 at *
      generalize srt (ys.map fun y => y / 4 % 100) = qs at *
      generalize y0 % 4 = r at *
      clear hD nD sm2 hL1 sm nU
      repeat cell_call
      intro F nF
      have hU1 := hp_ne (o' := .lst []) (ne_of_none hU nF) hU
      have hF : (upd H3 F (.lst [])) F = some (.lst []) := upd_same
      have nF0 := same_free nF sm3
      have eUF := ne_of_none hU nF
      have sm4 : Same H (upd H3 F (.lst [])) := same_trN nF sm3
      generalize upd H3 F (.lst []) = H4 at *
      clear nF sm3 hU
      repeat cell_call
      refine ⟨by omega, by omega, fR (fun i σ' H' => Same H H' ∧ H' U = some (.lst (qs.map V.int)) ∧ H' F = some (.lst ((((rgN i).flatMap fun g => nCho r g (nMem qs g))).map V.int)) ∧ ∃ a b c d e, σ' = [some (.ref L), some (.int r), some (.ref U), some (.ref F), a, b, c, d, e]) ⟨sm4, hU1, hF, none, none, none, none, none, rfl⟩ (fun i σ1 H5 hi e => ?_) (fun σ1 H5 e => ?_)⟩
      · clear sm4 hU1 hF
        obtain ⟨sm5, hU, hF, a, b, c, d, e, rfl⟩ := e
        have hi2 : i < 25 := hi
        have fl : ((rgN i).flatMap fun g => nCho r g (nMem qs g)).length ≤ 50 := by
          have z := flat_le (f := fun g => nCho r g (nMem qs g)) (l := rgN i) fun g _ => nCho_le r g _
          have ll : (rgN i).length = i := by unfold rgN; rw [List.length_map, List.length_range]
          omega
        repeat cell_call
        refine ⟨⟨_, SqL.of hU⟩, fun M nM => ?_⟩
        refine lcFM (fun q => decide (q % 25 = (i : Int))) (fun q => q) (SqL.of hU) nM (by omega) (fun k H' R RF _ sm2 hy hn => ?_) (fun H6 sm6 hM => ?_)
        · repeat cell_call
          rw [Int.zero_add]
          refine st_iD (fun h1 => ?_) (fun h1 => ?_)
          · repeat cell_call
            exact hy (decide_eq_true h1) _ (Same.refl _)
          · exact hn (decide_eq_false h1) _ (Same.refl _)
        rw [List.map_id'] at hM
        have hU6 := sm6 _ _ hU
        have hF6 := sm6 _ _ hF
        have smA := same_tr sm6 sm5
        have ml : (nMem qs i).length ≤ 3001 := Nat.le_trans (List.length_filter_le _ _) ql
        clear hU hF sm5 sm6 nM
        have hcho : ∀ (ms : List Int), nCho r i (nMem qs i) = ms → ((rgN (i + 1)).flatMap fun g => nCho r g (nMem qs g)) = ((rgN i).flatMap fun g => nCho r g (nMem qs g)) ++ ms := fun ms e => by
          have z : rgN (i + 1) = rgN i ++ [(i : Int)] := by
            unfold rgN
            rw [List.range_succ, List.map_append]
            rfl
          rw [z, List.flatMap_append, List.flatMap_cons, List.flatMap_nil, List.append_nil, e]
        replace hM : H6 M = some (.lst ((nMem qs i).map V.int)) := hM
        generalize ((rgN i).flatMap fun g => nCho r g (nMem qs g)) = fo at *
        unfold nCho at hcho
        generalize nMem qs i = ms at *
        repeat cell_call
        rw [List.length_map]
        refine st_iD (fun h1 => ?_) (fun h1 => ?_)
        · repeat cell_call
          refine ⟨⟨_, SqL.of hM⟩, fun E nE => ?_⟩
          refine lcFM (fun _ => true) (fun q => r + 4 * q) (SqL.of hM) nE (by omega) (fun k H' R RF _ sm2 hy hn => ?_) (fun H7 sm7 hE => ?_)
          · repeat cell_call
            exact hy rfl _ (Same.refl _)
          rw [filter_true] at hE
          have hF7 := sm7 _ _ hF6
          have hU7 := sm7 _ _ hU6
          have smB := same_tr sm7 smA
          have nE0 := same_free nE smA
          repeat cell_call
          refine st_ext hF7 hE (by rw [List.length_map]; omega) ?_
          repeat cell_call
          refine ⟨same_trU nF0 smB, hp_ne eUF hU7, ?_, _, _, _, _, _, rfl⟩
          rw [upd_same]
          exact congrArg (fun l => some (HO.lst (l.map V.int))) (hcho _ (if_pos (by omega))).symm
        · repeat cell_call
          intro G nG
          have hG : (upd H6 G (.lst [.int (0 + (i : Int)), .int (0 + (i : Int) + 25)])) G = some (.lst ([(i : Int), (i : Int) + 25].map V.int)) := by
            rw [upd_same, Int.zero_add]
            rfl
          have hF7 := hp_ne (o' := .lst [.int (0 + (i : Int)), .int (0 + (i : Int) + 25)]) (ne_of_none hF6 nG) hF6
          have hU7 := hp_ne (o' := .lst [.int (0 + (i : Int)), .int (0 + (i : Int) + 25)]) (ne_of_none hU6 nG) hU6
          have smB : Same H (upd H6 G (.lst [.int (0 + (i : Int)), .int (0 + (i : Int) + 25)])) := same_trN nG smA
          generalize upd H6 G (.lst [.int (0 + (i : Int)), .int (0 + (i : Int) + 25)]) = H7 at *
          clear nG hF6 hU6 smA hM
          repeat cell_call
          refine ⟨⟨_, SqL.of hG⟩, fun E nE => ?_⟩
          refine lcFM (fun _ => true) (fun q => r + 4 * q) (SqL.of hG) nE (by show 2 ≤ 100000; decide) (fun k H' R RF _ sm2 hy hn => ?_) (fun H8 sm8 hE => ?_)
          · repeat cell_call
            exact hy rfl _ (Same.refl _)
          rw [filter_true] at hE
          have hF8 := sm8 _ _ hF7
          have hU8 := sm8 _ _ hU7
          have smC := same_tr sm8 smB
          repeat cell_call
          refine st_ext hF8 hE (by show fo.length + 2 < 100000; omega) ?_
          repeat cell_call
          refine ⟨same_trU nF0 smC, hp_ne eUF hU8, ?_, _, _, _, _, _, rfl⟩
          rw [upd_same]
          exact congrArg (fun l => some (HO.lst (l.map V.int))) (hcho _ (if_neg (by omega))).symm
      · obtain ⟨sm5, hU, hF, a, b, c, d, e, rfl⟩ := e
        have e25 : (rgN ((25 : Int) - 0).toNat) = rg25 := rfl
        have hfo : ((rgN ((25 : Int) - 0).toNat).flatMap fun g => nCho r g (nMem qs g)) = nFo r qs := rfl
        replace hF : H5 F = some (.lst ((nFo r qs).map V.int)) := hF
        generalize nFo r qs = fo at *
        repeat cell_call
        rw [List.length_map]
        refine st_iD (fun h1 => ?_) (fun h1 => ?_)
        · rw [if_pos (by omega)] at q
          repeat cell_call
          exact q F _ nF0 sm5 hF
        · rw [if_neg (by omega)] at q
          repeat cell_call
          refine st_listT (T.t_ALL_FORBIDDEN _) fun p np => ?_
          exact q p _ (same_free np sm5) (same_trN np sm5) upd_same

end
end Mc
namespace Mc
open PySem PySem.Spec PyProof.Rows L2
local macro_rules | `(tactic| lcg_src) => `(tactic| first
  | with_reducible assumption
  | ((with_reducible apply Ne.symm); with_reducible assumption)
  | ((with_reducible apply ne_nf); (with_reducible assumption); lcg_off)
  | ((with_reducible apply Ne.symm); (with_reducible apply ne_nf); (with_reducible assumption); lcg_off))
local macro_rules | `(tactic| lcg_off) => `(tactic| first
  | with_reducible assumption
  | (with_reducible exact upd_same)
  | ((with_reducible apply hp_ne); lcg_src; lcg_off)
  | ((with_reducible apply hp_same); (with_reducible assumption); lcg_off)
  | ((with_reducible apply hp_frm); (with_reducible assumption); lcg_src; lcg_off)
  | ((with_reducible apply hp_frm2); (with_reducible assumption); lcg_src; lcg_src; lcg_off)
  | assumption)
local macro_rules | `(tactic| kpt_turns) => `(tactic| first
  | with_reducible assumption
  | ((with_reducible apply SqL.of); lcg_off)
  | ((with_reducible apply SqT.of); lcg_off)
  | ((with_reducible apply Frm.seq); (with_reducible assumption); lcg_src; kpt_turns)
  | ((with_reducible apply Frm.tup); (with_reducible assumption); lcg_src; kpt_turns)
  | ((with_reducible apply Frm2.seq); (with_reducible assumption); lcg_src; lcg_src; kpt_turns)
  | ((with_reducible apply Frm2.tup); (with_reducible assumption); lcg_src; lcg_src; kpt_turns)
  | ((with_reducible apply L2.Same.seq); (with_reducible assumption); kpt_turns)
  | ((with_reducible apply Same.tup); (with_reducible assumption); kpt_turns)
  | assumption)
local macro_rules | `(tactic| k_memK) => `(tactic| first
  | with_reducible exact Frm.refl _
  | with_reducible assumption
  | ((with_reducible apply Frm.trN); (with_reducible assumption); k_memK)
  | ((with_reducible apply Frm.trU); k_memK)
  | ((with_reducible apply Frm.trM); (with_reducible assumption); k_memK)
  | ((with_reducible apply Frm.tr); (with_reducible assumption); k_memK)
  | ((with_reducible apply Frm.trS); (with_reducible assumption); k_memK)
  | with_reducible exact Frm2.refl _
  | ((with_reducible apply Frm2.trN); (with_reducible assumption); k_memK)
  | ((with_reducible apply Frm2.trU); k_memK)
  | ((with_reducible apply Frm2.trV); k_memK)
  | ((with_reducible apply Frm2.trM); (with_reducible assumption); k_memK)
  | ((with_reducible apply Frm2.tr); (with_reducible assumption); k_memK)
  | ((with_reducible apply Frm2.trS); (with_reducible assumption); k_memK))
local macro_rules | `(tactic| k_allIn) => `(tactic| first
  | with_reducible exact L2.Same.refl _
  | with_reducible assumption
  | ((with_reducible apply same_trN); (with_reducible assumption); k_allIn)
  | ((with_reducible apply same_trU); (with_reducible assumption); k_allIn)
  | ((with_reducible apply same_tr); (with_reducible assumption); k_allIn))
local macro_rules | `(tactic| k_ownIn) => `(tactic| first
  | with_reducible refine st_seq ?_
  | ((with_reducible refine' st_setF ?e ?_); (case e => intro x; (simp only [List.set_cons_zero, List.set_cons_succ]; exact rfl)))
  | with_reducible refine st_c ?_
  | ((with_reducible refine' st_var ?h ?_); (case h => exact rfl))
  | with_reducible refine st_op ?_
  | with_reducible refine st_I0 ?_
  | ((with_reducible refine' st_powL ?c ?e ?_); (case c => exact ⟨by decide, by decide, by decide⟩); (case e => (simp only [Int.reduceToNat, Int.reducePow]; exact rfl)))
  | ((with_reducible refine st_I ?h ?_); (case h => first | with_reducible assumption | (show (0 : Int) < _; omega) | exact ⟨by omega, by omega⟩ | exact .inl ⟨by omega, by omega⟩ | exact .inr ⟨by omega, by omega⟩ | exact ⟨by omega, by omega, by omega⟩))
  | with_reducible refine st_nil ?_
  | with_reducible refine st_cons ?_
  | with_reducible refine st_ret ?_
  | with_reducible refine st_call ?_
  | with_reducible refine st_cb ?_
  | with_reducible refine st_exb ?_
  | ((with_reducible refine' st_ixL ?h1 ?h2 ?_); (case h1 => kpt_turns); (case h2 => first | ((with_reducible apply at0); exact rfl) | ((with_reducible apply at1); exact rfl) | ((with_reducible apply at2); exact rfl) | ((with_reducible apply at3); exact rfl) | with_reducible assumption))
  | ((with_reducible refine' st_ixT ?h1 ?h2 ?_); (case h1 => kpt_turns); (case h2 => first | ((with_reducible apply at0); exact rfl) | ((with_reducible apply at1); exact rfl) | ((with_reducible apply at2); exact rfl) | with_reducible assumption))
  | ((with_reducible refine' st_ixP ?h1 ?h2 ?h3 ?h4 ?_); (case h1 => kpt_turns); (case h2 => (repeat constructor)); (case h3 => omega); (case h4 => (simp; omega)))
  | ((with_reducible refine' st_ixPT ?h1 ?h2 ?h3 ?h4 ?_); (case h1 => kpt_turns); (case h2 => (repeat constructor)); (case h3 => omega); (case h4 => (simp; omega)))
  | with_reducible refine st_tB ?_
  | with_reducible refine st_test ?_
  | with_reducible refine st_and ?_
  | with_reducible refine st_or ?_
  | with_reducible refine st_not ?_
  | with_reducible refine st_andV ?_
  | with_reducible refine st_orV ?_
  | with_reducible refine st_notV ?_
  | with_reducible refine st_chain ?_
  | with_reducible refine st_iT ?_
  | with_reducible refine st_iF ?_
  | with_reducible refine st_iNT ?_
  | with_reducible refine st_iNF ?_
  | with_reducible refine st_iRf ?_
  | with_reducible refine st_iNRf ?_
  | with_reducible refine st_asg ?_
  | ((with_reducible refine' st_parF ?e ?_); (case e => intro x y; (simp only [List.set_cons_zero, List.set_cons_succ]; exact rfl)))
  | with_reducible refine st_par2 ?_
  | with_reducible refine st_fst ?_
  | with_reducible refine st_jsE ?_
  | with_reducible refine st_js ?_
  | with_reducible refine st_fmt ?_
  | with_reducible refine st_joinK ?_
  | with_reducible refine st_strx ?_
  | ((with_reducible refine' st_par3F ?e ?_); (case e => intro x y z; (simp only [List.set_cons_zero, List.set_cons_succ]; exact rfl)))
  | with_reducible refine st_par3 ?_
  | ((with_reducible refine' st_augF ?h ?e ?_); (case h => exact rfl); (case e => intro x; (simp only [List.set_cons_zero, List.set_cons_succ]; exact rfl)))
  | with_reducible refine st_ipI ?_
  | with_reducible refine st_drop ?_
  | with_reducible refine st_next ?_
  | with_reducible refine st_un ?_
  | with_reducible refine st_U ?_
  | ((with_reducible refine' st_gNF ?e ?_); (case e => (simp only [List.set_cons_zero, List.set_cons_succ]; exact rfl)))
  | with_reducible refine st_gN ?_
  | ((with_reducible refine' st_gT ?h1 ?h2 ?_); (case h1 => kpt_turns); (case h2 => exact rfl))
  | with_reducible refine st_gC ?_
  | with_reducible refine st_gE ?_
  | with_reducible refine st_gS ?_
  | ((with_reducible refine' st_setL ?h1 ?h2 ?_); (case h1 => lcg_off); (case h2 => exact rfl))
  | with_reducible refine st_lst ?_
  | with_reducible refine st_tup ?_
  | ((with_reducible refine st_new ?h ?_); (case h => (simp; done)))
  | with_reducible refine st_callN ?_
  | with_reducible refine st_bm ?_
  | with_reducible refine st_bm0 ?_
  | ((with_reducible refine' st_tyL ?h ?_); (case h => kpt_turns))
  | ((with_reducible refine st_eq ?h ?_); (case h => exact rfl))
  | ((with_reducible refine st_ne ?h ?_); (case h => exact rfl))
  | with_reducible refine st_i1 ?_
  | with_reducible refine st_i2 ?_
  | with_reducible refine st_int ?_
  | with_reducible refine st_intb ?_
  | ((with_reducible refine' st_lenQ ?h ?_); (case h => kpt_turns))
  | ((with_reducible refine' st_lenQT ?h ?_); (case h => kpt_turns))
  | with_reducible refine st_yes ?_
  | with_reducible refine st_brk ?_
  | with_reducible refine st_cont ?_
  | with_reducible refine st_retN ?_
  | with_reducible refine st_forI ?_
  | with_reducible refine st_lcI ?_
  | with_reducible refine st_itL ?_
  | with_reducible refine st_itT ?_
  | with_reducible refine st_rng1 ?_
  | with_reducible refine st_rng2 ?_
  | with_reducible refine st_ref ?_
  | with_reducible refine st_sl ?_
  | with_reducible refine st_pN ?_
  | with_reducible refine st_pS ?_
  | with_reducible refine st_pI ?_
  | (refine ⟨rfl, ?_⟩))
local macro_rules | `(tactic| cell_call) => `(tactic| first
  | with_reducible refine st_seq ?_
  | ((with_reducible refine' st_setF ?e ?_); (case e => intro x; (simp only [List.set_cons_zero, List.set_cons_succ]; exact rfl)))
  | with_reducible refine st_c ?_
  | ((with_reducible refine' st_var ?h ?_); (case h => exact rfl))
  | with_reducible refine st_op ?_
  | with_reducible refine st_I0 ?_
  | ((with_reducible refine' st_powL ?c ?e ?_); (case c => exact ⟨by decide, by decide, by decide⟩); (case e => (simp only [Int.reduceToNat, Int.reducePow]; exact rfl)))
  | ((with_reducible refine st_I ?h ?_); (case h => first | with_reducible assumption | (show (0 : Int) < _; omega) | exact ⟨by omega, by omega⟩ | exact .inl ⟨by omega, by omega⟩ | exact .inr ⟨by omega, by omega⟩ | exact ⟨by omega, by omega, by omega⟩))
  | with_reducible refine st_nil ?_
  | with_reducible refine st_cons ?_
  | with_reducible refine st_ret ?_
  | with_reducible refine st_call ?_
  | with_reducible refine st_cb ?_
  | with_reducible refine st_exb ?_
  | ((with_reducible refine' st_ixL ?h1 ?h2 ?_); (case h1 => kpt_turns); (case h2 => first | ((with_reducible apply at0); exact rfl) | ((with_reducible apply at1); exact rfl) | ((with_reducible apply at2); exact rfl) | ((with_reducible apply at3); exact rfl) | with_reducible assumption))
  | ((with_reducible refine' st_ixT ?h1 ?h2 ?_); (case h1 => kpt_turns); (case h2 => first | ((with_reducible apply at0); exact rfl) | ((with_reducible apply at1); exact rfl) | ((with_reducible apply at2); exact rfl) | with_reducible assumption))
  | ((with_reducible refine' st_ixP ?h1 ?h2 ?h3 ?h4 ?_); (case h1 => kpt_turns); (case h2 => (repeat constructor)); (case h3 => omega); (case h4 => (simp; omega)))
  | ((with_reducible refine' st_ixPT ?h1 ?h2 ?h3 ?h4 ?_); (case h1 => kpt_turns); (case h2 => (repeat constructor)); (case h3 => omega); (case h4 => (simp; omega)))
  | with_reducible refine st_tB ?_
  | with_reducible refine st_test ?_
  | with_reducible refine st_and ?_
  | with_reducible refine st_or ?_
  | with_reducible refine st_not ?_
  | with_reducible refine st_andV ?_
  | with_reducible refine st_orV ?_
  | with_reducible refine st_notV ?_
  | with_reducible refine st_chain ?_
  | with_reducible refine st_iT ?_
  | with_reducible refine st_iF ?_
  | with_reducible refine st_iNT ?_
  | with_reducible refine st_iNF ?_
  | with_reducible refine st_iRf ?_
  | with_reducible refine st_iNRf ?_
  | with_reducible refine st_asg ?_
  | ((with_reducible refine' st_parF ?e ?_); (case e => intro x y; (simp only [List.set_cons_zero, List.set_cons_succ]; exact rfl)))
  | with_reducible refine st_par2 ?_
  | with_reducible refine st_fst ?_
  | with_reducible refine st_jsE ?_
  | with_reducible refine st_js ?_
  | with_reducible refine st_fmt ?_
  | with_reducible refine st_joinK ?_
  | with_reducible refine st_strx ?_
  | ((with_reducible refine' st_par3F ?e ?_); (case e => intro x y z; (simp only [List.set_cons_zero, List.set_cons_succ]; exact rfl)))
  | with_reducible refine st_par3 ?_
  | ((with_reducible refine' st_augF ?h ?e ?_); (case h => exact rfl); (case e => intro x; (simp only [List.set_cons_zero, List.set_cons_succ]; exact rfl)))
  | with_reducible refine st_ipI ?_
  | with_reducible refine st_drop ?_
  | with_reducible refine st_next ?_
  | with_reducible refine st_un ?_
  | with_reducible refine st_U ?_
  | ((with_reducible refine' st_gNF ?e ?_); (case e => (simp only [List.set_cons_zero, List.set_cons_succ]; exact rfl)))
  | with_reducible refine st_gN ?_
  | ((with_reducible refine' st_gT ?h1 ?h2 ?_); (case h1 => kpt_turns); (case h2 => exact rfl))
  | with_reducible refine st_gC ?_
  | with_reducible refine st_gE ?_
  | with_reducible refine st_gS ?_
  | ((with_reducible refine' st_setL ?h1 ?h2 ?_); (case h1 => lcg_off); (case h2 => exact rfl))
  | with_reducible refine st_lst ?_
  | with_reducible refine st_tup ?_
  | ((with_reducible refine st_new ?h ?_); (case h => (simp; done)))
  | with_reducible refine st_callN ?_
  | with_reducible refine st_bm ?_
  | with_reducible refine st_bm0 ?_
  | ((with_reducible refine' st_tyL ?h ?_); (case h => kpt_turns))
  | ((with_reducible refine st_eq ?h ?_); (case h => exact rfl))
  | ((with_reducible refine st_ne ?h ?_); (case h => exact rfl))
  | with_reducible refine st_i1 ?_
  | with_reducible refine st_i2 ?_
  | with_reducible refine st_int ?_
  | with_reducible refine st_intb ?_
  | ((with_reducible refine' st_lenQ ?h ?_); (case h => kpt_turns))
  | ((with_reducible refine' st_lenQT ?h ?_); (case h => kpt_turns))
  | with_reducible refine st_yes ?_
  | with_reducible refine st_brk ?_
  | with_reducible refine st_cont ?_
  | with_reducible refine st_retN ?_
  | with_reducible refine st_forI ?_
  | with_reducible refine st_lcI ?_
  | with_reducible refine st_itL ?_
  | with_reducible refine st_itT ?_
  | with_reducible refine st_rng1 ?_
  | with_reducible refine st_rng2 ?_
  | with_reducible refine st_ref ?_
  | with_reducible refine st_sl ?_
  | with_reducible refine st_pN ?_
  | with_reducible refine st_pS ?_
  | with_reducible refine st_pI ?_
  | (refine ⟨rfl, ?_⟩)
  | with_reducible refine st_ifE ?_
  | with_reducible refine st_ifS ?_)
local macro_rules | `(tactic| kpf_close) => `(tactic| first
  | cell_call
  | refine st_iD (fun _ => ?_) (fun _ => ?_)
  | refine st_iND (fun _ => ?_) (fun _ => ?_)
  | refine st_iNB (fun _ => ?_) (fun _ => ?_)
  | refine st_iB (fun _ => ?_) (fun _ => ?_))
local macro_rules | `(tactic| k_places) => `(tactic| first
  | with_reducible refine isi_non_bool ?_
  | with_reducible refine isi_non_int ?_
  | with_reducible refine isi_non_str ?_
  | with_reducible refine isi_non_list ?_
  | with_reducible refine isi_non_tuple ?_
  | with_reducible refine isi_bl_bool ?_
  | with_reducible refine isi_bl_int ?_
  | with_reducible refine isi_bl_str ?_
  | with_reducible refine isi_bl_list ?_
  | with_reducible refine isi_bl_tuple ?_
  | with_reducible refine isi_int_bool ?_
  | with_reducible refine isi_int_int ?_
  | with_reducible refine isi_int_str ?_
  | with_reducible refine isi_int_list ?_
  | with_reducible refine isi_int_tuple ?_
  | with_reducible refine isi_str_bool ?_
  | with_reducible refine isi_str_int ?_
  | with_reducible refine isi_str_str ?_
  | with_reducible refine isi_str_list ?_
  | with_reducible refine isi_str_tuple ?_
  | ((with_reducible refine' isi_list_bool ?h ?_); (case h => kpt_turns))
  | ((with_reducible refine' isi_list_int ?h ?_); (case h => kpt_turns))
  | ((with_reducible refine' isi_list_str ?h ?_); (case h => kpt_turns))
  | ((with_reducible refine' isi_list_list ?h ?_); (case h => kpt_turns))
  | ((with_reducible refine' isi_list_tuple ?h ?_); (case h => kpt_turns))
  | ((with_reducible refine' isi_tuple_bool ?h ?_); (case h => kpt_turns))
  | ((with_reducible refine' isi_tuple_int ?h ?_); (case h => kpt_turns))
  | ((with_reducible refine' isi_tuple_str ?h ?_); (case h => kpt_turns))
  | ((with_reducible refine' isi_tuple_list ?h ?_); (case h => kpt_turns))
  | ((with_reducible refine' isi_tuple_tuple ?h ?_); (case h => kpt_turns)))
local macro_rules | `(tactic| cell_call) => `(tactic| first
  | with_reducible refine st_zip ?_)
local macro_rules | `(tactic| k_ownIn) => `(tactic| first
  | with_reducible refine st_zip ?_)
local macro_rules | `(tactic| cell_call) => `(tactic| first
  | with_reducible refine st_disp ?_
  | with_reducible refine st_pr ?_
  | with_reducible refine st_prE ?_
  | with_reducible refine st_dget ?_
  | with_reducible refine st_dput ?_
  | with_reducible refine st_daug ?_
  | ((with_reducible refine' st_bgG ?h ?_); (case h => lcg_off))
  | ((with_reducible refine' st_bgL ?h ?_); (case h => lcg_off))
  | ((with_reducible refine' st_bgT ?h ?_); (case h => lcg_off))
  | ((with_reducible refine' st_bgF ?h ?_); (case h => lcg_off))
  | ((with_reducible refine' st_bpL ?h ?_); (case h => lcg_off)))
local macro_rules | `(tactic| k_ownIn) => `(tactic| first
  | with_reducible refine st_disp ?_
  | with_reducible refine st_pr ?_
  | with_reducible refine st_prE ?_
  | with_reducible refine st_dget ?_
  | with_reducible refine st_dput ?_
  | with_reducible refine st_daug ?_
  | ((with_reducible refine' st_bgG ?h ?_); (case h => lcg_off))
  | ((with_reducible refine' st_bgL ?h ?_); (case h => lcg_off))
  | ((with_reducible refine' st_bgT ?h ?_); (case h => lcg_off))
  | ((with_reducible refine' st_bgF ?h ?_); (case h => lcg_off))
  | ((with_reducible refine' st_bpL ?h ?_); (case h => lcg_off)))
local macro_rules | `(tactic| cell_call) => `(tactic| first
  | with_reducible refine st_veI ?_
  | with_reducible refine st_ost ?_
  | with_reducible refine st_mko ?_
  | with_reducible refine st_xv ?_
  | with_reducible refine st_lrg ?_
  | with_reducible refine st_callS ?_
  | with_reducible refine st_rg2 ?_
  | with_reducible refine st_rgE ?_)
local macro_rules | `(tactic| k_ownIn) => `(tactic| first
  | with_reducible refine st_veI ?_
  | with_reducible refine st_ost ?_
  | with_reducible refine st_mko ?_
  | with_reducible refine st_xv ?_
  | with_reducible refine st_lrg ?_
  | with_reducible refine st_callS ?_
  | with_reducible refine st_rg2 ?_
  | with_reducible refine st_rgE ?_)
local macro_rules | `(tactic| cell_call) => `(tactic| first
  | with_reducible refine st_inC ?_
  | with_reducible refine st_itS ?_
  | with_reducible refine st_itS1 ?_)
local macro_rules | `(tactic| k_ownIn) => `(tactic| first
  | with_reducible refine st_inC ?_
  | with_reducible refine st_itS ?_
  | with_reducible refine st_itS1 ?_)
local macro_rules | `(tactic| cell_call) => `(tactic| first
  | with_reducible refine st_frz ?_
  | with_reducible refine st_itI ?_
  | with_reducible refine st_dg2 ?_
  | with_reducible refine st_dput ?_
  | with_reducible refine st_scI ?_)
local macro_rules | `(tactic| cell_call) => `(tactic| first
  | with_reducible refine st_revI ?_)
local macro_rules | `(tactic| k_ownIn) => `(tactic| first
  | with_reducible refine st_revI ?_)
local macro_rules | `(tactic| cell_call) => `(tactic| first
  | with_reducible refine st_frzA ?_
  | with_reducible refine st_itK ?_)
local macro_rules | `(tactic| k_ownIn) => `(tactic| first
  | with_reducible refine st_frzA ?_
  | with_reducible refine st_itK ?_)
section
variable {P : Program} {w : World} {K : PySem.W.Frag} {mg : Str → Option Value} {base : Heap}
def sp_class_of (K : PySem.W.Frag) : Sp := fun vs H Q _ => ∃ y : Int, vs = [.int y] ∧ Q (.int (y / 4 % 25)) H
theorem ok_class_of (T : Txt K mg) : FnOk P w K mg base CX0 1 (He.ga K "class_of") T.fd_class_of ["year"] (sp_class_of K) := by
  refine T.F_class_of.ok sc_class_of (fun vs H Q E h => ?_) (fun cdv A outer s H vs Q E hr h => ?_)
  · obtain ⟨y, rfl, _⟩ := h
    rfl
  · obtain ⟨y, rfl, q⟩ := h
    refine ⟨_, PSs.nox (pss_one (ps_ret (pe_op op_mod (pe_op op_fdiv (pv 0) pe_int) (pe_glob (v := .int (25)) rfl T.c_CLASSES.2 ⟨_, rfl⟩)))), ?_⟩
    rw [start_class_of]
    repeat cell_call
    exact q

def sp_missing_in_class (K : PySem.W.Frag) : Sp := fun vs H Q _ => ∃ (W P : Addr) (ws ps : List Int), vs = [.ref W, .ref P] ∧ H W = some (.lst (ws.map V.int)) ∧ H P = some (.lst (ps.map V.int)) ∧ ws.length ≤ 3001 ∧ ps.length ≤ 3001 ∧
  ∀ p H', Same H H' → H' p = some (.lst ((missC ws ps).map V.int)) → Q (.ref p) H'
theorem srt_nil {l : List Int} : srt l = [] ↔ l = [] := by
  constructor
  · intro h
    refine List.eq_nil_iff_forall_not_mem.mpr fun k hk => ?_
    have := mem_srt.mpr hk
    rw [h] at this
    cases this
  · rintro rfl
    rfl
theorem ok_missing_in_class (T : Txt K mg) : FnOk P w K mg base CX0 1 (He.ga K "missing_in_class") T.fd_missing_in_class ["wanted", "present"] (sp_missing_in_class K) := by
  refine T.F_missing_in_class.ok sc_missing_in_class (fun vs H Q E h => ?_) (fun cdv A outer s H vs Q E hr h => ?_)
  · obtain ⟨W, P, ws, ps, rfl, _⟩ := h
    rfl
  · obtain ⟨W, P, ws, ps, rfl, hW, hP, hw, hp, q⟩ := h
    refine ⟨_, PSs.nox (pss_cons (ps_set (i := 2) sc_missing_in_class.nd rfl (Or.inl rfl) (pe_callB (show CallR _ _ (rSortS w) from (cr_sortS rfl)) (by rfl) T.b_sorted (by decide +kernel) (pa_cons (pe_scI (own := [("year", 3)]) (g := gName 3) (tt := tYes) rfl sc_missing_in_class.nd (show PI _ _ _ (iList K _) from pi_list (pv 1)) (blkOk_by (N := N_missing_in_class) (sc := defScope s_missing_in_class) (by decide +kernel)) (fun _ _ _ _ _ => (pg_name (i := 3) sc_missing_in_class.nd rfl (Or.inl rfl))) (fun _ _ _ _ _ => pts_nil) (fun _ _ _ _ _ => (pe_op op_mod (pe_op op_fdiv (pv 3) pe_int) (pe_glob (v := .int (100)) rfl T.c_QUARTERS.2 ⟨_, rfl⟩)))) pa_nil)))
      (pss_cons (ps_if (pt_cmpR op_ge (pe_callB (show CallR _ _ (rLenQ K) from call_lenQ) (by rfl) T.b_len PySem.boot_len (pa_cons (pv 2) pa_nil)) (pe_callB (show CallR _ _ (rLenQ K) from call_lenQ) (by rfl) T.b_len PySem.boot_len (pa_cons (pv 0) pa_nil)) (nomark _)) (pss_one (ps_ret (pe_lst pa_nil))) pss_nil)
      (pss_one (ps_ret (pe_ifExp (pt_cmpR (show OpR _ _ (rEqD K) from (op_eqD hr.units)) (pv 2) (pe_lst pa_nil) (nomark _)) (pv 0) (pe_lst (pa_cons (pe_op op_add (pe_ix (show IxR _ (rIxL K) from ix_list) (pv 1) pe_int (fun _ _ => rfl)) (pe_op op_mul pe_int (pe_glob (v := .int (25)) rfl T.c_CLASSES.2 ⟨_, rfl⟩))) pa_nil))))))), ?_⟩
    rw [start_missing_in_class]
    repeat cell_call
    refine ⟨⟨_, SqL.of hP⟩, fun D nD => ?_⟩
    refine scFM (fun y => y / 4 % 100) (SqL.of hP) nD (by omega) (fun k H' R RF _ sm2 hy => ?_) (fun H2 c sm2 hD => ?_)
    · repeat cell_call
      exact hy _ (Same.refl _)
    repeat cell_call
    refine st_sortS hD fun U nU => ?_
    have sm3 := same_trN (o := .lst ((srt (ps.map fun y => y / 4 % 100)).map V.int)) nU sm2
    have hU : (upd H2 U (.lst ((srt (ps.map fun y => y / 4 % 100)).map V.int))) U = some (.lst ((srt (ps.map fun y => y / 4 % 100)).map V.int)) := upd_same
    have hW3 := sm3 _ _ hW
    have hP3 := sm3 _ _ hP
    have sn : srt (ps.map fun y => y / 4 % 100) = [] ↔ ps = [] := srt_nil.trans List.map_eq_nil_iff
    generalize upd H2 U (.lst ((srt (ps.map fun y => y / 4 % 100)).map V.int)) = H3 at *
    unfold missC at q
    generalize srt (ps.map fun y => y / 4 % 100) = qs at *
    clear hD nD sm2 nU hW hP
    repeat cell_call
    rw [List.length_map, List.length_map]
    refine st_iD (fun h1 => ?_) (fun h1 => ?_)
    · rw [if_pos (by omega)] at q
      repeat cell_call
      intro E nE
      exact q E _ (same_trN nE sm3) upd_same
    · rw [if_neg (by omega)] at q
      repeat cell_call
      intro E nE
      have sm4 := same_trN (o := .lst []) nE sm3
      refine st_eqI (ms := []) (SqL.of (hp_ne (ne_of_none hU nE) hU)) (SqL.of upd_same) ?_
      have hW4 := hp_ne (o' := .lst []) (ne_of_none hW3 nE) hW3
      have hP4 := hp_ne (o' := .lst []) (ne_of_none hP3 nE) hP3
      generalize upd H3 E (.lst []) = H4 at *
      clear hU hW3 hP3 nE sm3
      repeat cell_call
      refine st_iD (fun h2 => ?_) (fun h2 => ?_)
      · rw [if_pos (sn.mp h2)] at q
        repeat cell_call
        exact q W _ sm4 hW4
      · rw [if_neg (fun z => h2 (sn.mpr z))] at q
        obtain ⟨y0, yt, rfl⟩ := ne_cons (fun z => h2 (sn.mpr z))
        repeat cell_call
        intro F nF
        exact q F _ (same_trN nF sm4) upd_same

def sp_missing_years (K : PySem.W.Frag) : Sp := fun vs H Q _ => ∃ (W P : Addr) (ws ps : List Int), vs = [.ref W, .ref P] ∧ H W = some (.lst (ws.map V.int)) ∧ H P = some (.lst (ps.map V.int)) ∧ ws.length ≤ 50 ∧ ps.length ≤ 3001 ∧
  ∀ p H', Same H H' → H' p = some (.lst ((missY ws ps).map V.int)) → Q (.ref p) H'
theorem ok_missing_years (T : Txt K mg) : FnOk P w K mg base CX0 2 (He.ga K "missing_years") T.fd_missing_years ["wanted", "present"] (sp_missing_years K) := by
  refine T.F_missing_years.ok sc_missing_years (fun vs H Q E h => ?_) (fun cdv A outer s H vs Q E hr h => ?_)
  · obtain ⟨W, P, ws, ps, rfl, _⟩ := h
    rfl
  · obtain ⟨W, P, ws, ps, rfl, hW, hP, hw, hp, q⟩ := h
    refine ⟨_, PSs.nox (pss_cons (ps_if (pt_cmpR (show OpR _ _ (rEqD K) from (op_eqD hr.units)) (pv 0) (pe_callTy (show CallR _ _ (rListQ K) from call_listQ) (by rfl) T.b_list (by decide +kernel) (pa_cons (pe_glob (v := .ref (He.ga K "ALL_FORBIDDEN")) rfl T.g_ALL_FORBIDDEN rfl) pa_nil)) (nomark _)) (pss_cons (ps_if (pt_cmpR (show OpR _ _ (rEqD K) from (op_eqD hr.units)) (pv 1) (pe_lst pa_nil) (nomark _)) (pss_one (ps_ret (pv 0))) pss_nil)
      (pss_one (ps_ret (pe_ifExp (pt_val (pe_callB (show CallR _ _ (rAll K) from (cr_all rfl)) (by rfl) T.b_all (by decide +kernel) (pa_cons (pe_lc (own := [("year", 4)]) (g := gName 4) (tt := tYes) rfl sc_missing_years.nd (show PI _ _ _ (iList K _) from pi_list (pv 1)) (blkOk_by (N := N_missing_years) (sc := defScope s_missing_years) (by decide +kernel)) (fun _ _ _ _ _ => (pg_name (i := 4) sc_missing_years.nd rfl (Or.inl rfl))) (fun _ _ _ _ _ => pts_nil) (fun _ _ _ _ _ => (pe_cmpR op_eqI (pe_op op_mod (pe_op op_sub (pv 4) (pe_ix (show IxR _ (rIxL K) from ix_list) (pv 1) pe_int (fun _ _ => rfl))) pe_int) pe_int (nomark _)))) pa_nil))) (pe_lst (pa_cons (pe_op op_add (pe_ix (show IxR _ (rIxL K) from ix_list) (pv 1) pe_int (fun _ _ => rfl)) pe_int) pa_nil)) (pe_lst pa_nil))))) pss_nil)
      (pss_cons (ps_set (i := 2) sc_missing_years.nd rfl (Or.inl rfl) (pe_lst pa_nil))
      (pss_cons (ps_for PassesOwn.never rfl (pi_range1 (by rfl) T.b_range (pa_cons (pe_glob (v := .int (25)) rfl T.c_CLASSES.2 ⟨_, rfl⟩) pa_nil)) (pg_name (i := 3) sc_missing_years.nd rfl (Or.inr rfl)) (pss_one (ps_expr (show PE _ _ (tBM K _ _ _ _) from pe_bm PySem.F.plainAttrs_list PySem.F.slot_list_extend PySem.F.type_list_extend mt_extend (pv 2) (pa_cons (pe_call (ok_missing_in_class T) (hr.mono (by decide)) rfl T.g_missing_in_class T.F_missing_in_class.kp (b_missing_in_class T) .nil pass0 (pa_cons (pe_lc (own := [("year", 4)]) (g := gName 4) rfl sc_missing_years.nd (show PI _ _ _ (iList K _) from pi_list (pv 0)) (blkOk_by (N := N_missing_years) (sc := defScope s_missing_years) (by decide +kernel)) (fun _ _ _ _ _ => (pg_name (i := 4) sc_missing_years.nd rfl (Or.inl rfl))) (fun _ _ _ _ _ => (pts_one (pt_cmpR op_eqI (pe_call (ok_class_of T) (hr.mono (by decide)) rfl T.g_class_of T.F_class_of.kp (b_class_of T) .nil pass0 (pa_cons (pv 4) pa_nil)) (pv 3) (nomark _)))) (fun _ _ _ _ _ => (pv 4))) (pa_cons (pe_lc (own := [("year", 4)]) (g := gName 4) rfl sc_missing_years.nd (show PI _ _ _ (iList K _) from pi_list (pv 1)) (blkOk_by (N := N_missing_years) (sc := defScope s_missing_years) (by decide +kernel)) (fun _ _ _ _ _ => (pg_name (i := 4) sc_missing_years.nd rfl (Or.inl rfl))) (fun _ _ _ _ _ => (pts_one (pt_cmpR op_eqI (pe_call (ok_class_of T) (hr.mono (by decide)) rfl T.g_class_of T.F_class_of.kp (b_class_of T) .nil pass0 (pa_cons (pv 4) pa_nil)) (pv 3) (nomark _)))) (fun _ _ _ _ _ => (pv 4))) pa_nil))) pa_nil)))))
      (pss_one (ps_ret (pv 2)))))), ?_⟩
    rw [start_missing_years]
    repeat cell_call
    refine st_listT (T.t_ALL_FORBIDDEN _) fun A nA => ?_
    have sm1 : Same H (upd H A (.lst [.int 0, .int 1])) := Same.new nA
    have hA : (upd H A (.lst [.int 0, .int 1])) A = some (.lst (([0, 1] : List Int).map V.int)) := upd_same
    have hW1 := sm1 _ _ hW
    have hP1 := sm1 _ _ hP
    generalize upd H A (.lst [.int 0, .int 1]) = H1 at *
    clear nA
    refine st_eqI (SqL.of hW1) (SqL.of hA) ?_
    unfold missY at q
    repeat cell_call
    refine st_iD (fun h1 => ?_) (fun h1 => ?_)
    · rw [if_pos h1] at q
      subst h1
      repeat cell_call
      intro B nB
      have sm2 := same_trN (o := .lst []) nB sm1
      have hW2 := hp_ne (o' := .lst []) (ne_of_none hW1 nB) hW1
      have hP2 := hp_ne (o' := .lst []) (ne_of_none hP1 nB) hP1
      refine st_eqI (ms := []) (SqL.of hP2) (SqL.of upd_same) ?_
      generalize upd H1 B (.lst []) = H2 at *
      clear nB sm1 hA hW1 hP1
      repeat cell_call
      refine st_iD (fun h2 => ?_) (fun h2 => ?_)
      · rw [if_pos h2] at q
        repeat cell_call
        exact q W _ sm2 hW2
      · rw [if_neg h2] at q
        obtain ⟨y0, yt, rfl⟩ := ne_cons h2
        have eH : (y0 :: yt).headD 0 = y0 := rfl
        rw [eH] at q
        repeat cell_call
        refine ⟨⟨_, SqL.of hP2⟩, fun C nC => ?_⟩
        refine lcV (ns := y0 :: yt) (fun _ => true) (fun y => .bl (decide ((y - y0) % 4 = 0))) (SqL.of hP2) nC (by omega) (fun k H' R RF _ sm hy _ => ?_) (fun H3 sm hC => ?_)
        · have hP' := sm _ _ hP2
          repeat cell_call
          exact hy rfl _ (Same.refl _)
        rw [filter_true, show ((y0 :: yt).map fun y => V.bl (decide ((y - y0) % 4 = 0))) = ((y0 :: yt).map fun y => decide ((y - y0) % 4 = 0)).map V.bl by rw [List.map_map]; rfl] at hC
        repeat cell_call
        refine st_allI (SqL.of hC) ?_
        have ea : ((y0 :: yt).map fun y => decide ((y - y0) % 4 = 0)).all id = (y0 :: yt).all fun y => decide ((y - y0) % 4 = 0) := by
          rw [List.all_map]
          rfl
        rw [ea]
        have hP3 := sm _ _ hP2
        have sm3 := same_tr sm sm2
        clear hC nC ea sm sm2 hW2 hP2
        repeat cell_call
        refine st_iB (fun h3 => ?_) (fun h3 => ?_)
        · rw [if_pos h3] at q
          repeat cell_call
          intro F nF
          exact q F _ (same_trN nF sm3) upd_same
        · rw [if_neg (by rw [h3]; decide)] at q
          repeat cell_call
          intro F nF
          exact q F _ (same_trN nF sm3) upd_same
    · rw [if_neg h1] at q
      repeat cell_call
      intro F nF
      have sm2 := same_trN (o := .lst []) nF sm1
      have nF0 := same_free nF sm1
      have hW2 := hp_ne (o' := .lst []) (ne_of_none hW1 nF) hW1
      have hP2 := hp_ne (o' := .lst []) (ne_of_none hP1 nF) hP1
      have hF : (upd H1 F (.lst [])) F = some (.lst []) := upd_same
      generalize upd H1 F (.lst []) = H2 at *
      clear nF sm1 hA hW1 hP1
      repeat cell_call
      have fl : ∀ l : List Int, (∀ g ∈ l, (missC (cls ws g) (cls ps g)).length ≤ 50) := fun l g _ => Nat.le_trans missC_le (Nat.le_trans (cls_le ws g) hw)
      refine ⟨by omega, by omega, fR (fun i σ' H' => Same H H' ∧ H' F = some (.lst (((rgN i).flatMap fun g => missC (cls ws g) (cls ps g)).map V.int)) ∧ ∃ a b, σ' = [some (.ref W), some (.ref P), some (.ref F), a, b]) ⟨sm2, hF, none, none, rfl⟩ (fun i σ1 H5 hi e => ?_) (fun σ1 H5 e => ?_)⟩
      · clear sm2 hF hW2 hP2
        obtain ⟨sm5, hF, a, b, rfl⟩ := e
        have hi2 : i < 25 := hi
        have hW5 := sm5 _ _ hW
        have hP5 := sm5 _ _ hP
        have fl2 := flat_le2 (f := fun g => missC (cls ws g) (cls ps g)) (fl (rgN i))
        have rl : (rgN i).length = i := by unfold rgN; rw [List.length_map, List.length_range]
        have step : ((rgN (i + 1)).flatMap fun g => missC (cls ws g) (cls ps g)) = ((rgN i).flatMap fun g => missC (cls ws g) (cls ps g)) ++ missC (cls ws i) (cls ps i) := by
          have z : rgN (i + 1) = rgN i ++ [(i : Int)] := by
            unfold rgN
            rw [List.range_succ, List.map_append]
            rfl
          rw [z, List.flatMap_append, List.flatMap_cons, List.flatMap_nil, List.append_nil]
        rw [rl] at fl2
        repeat cell_call
        refine ⟨⟨_, SqL.of hW5⟩, fun M nM => ?_⟩
        refine lcFM (fun y => decide (y / 4 % 25 = (i : Int))) (fun y => y) (SqL.of hW5) nM (by omega) (fun k H' R RF _ sm2 hy hn => ?_) (fun H6 sm6 hM => ?_)
        · repeat cell_call
          refine ⟨_, rfl, ?_⟩
          repeat cell_call
          rw [Int.zero_add]
          refine st_iD (fun h1 => ?_) (fun h1 => ?_)
          · repeat cell_call
            exact hy (decide_eq_true h1) _ (Same.refl _)
          · exact hn (decide_eq_false h1) _ (Same.refl _)
        rw [List.map_id'] at hM
        replace hM : H6 M = some (.lst ((cls ws i).map V.int)) := hM
        have hF6 := sm6 _ _ hF
        have hP6 := sm6 _ _ hP5
        have smA := same_tr sm6 sm5
        clear nM hF hW5 hP5 sm5 sm6
        repeat cell_call
        refine ⟨⟨_, SqL.of hP6⟩, fun N nN => ?_⟩
        refine lcFM (fun y => decide (y / 4 % 25 = (i : Int))) (fun y => y) (SqL.of hP6) nN (by omega) (fun k H' R RF _ sm2 hy hn => ?_) (fun H7 sm7 hN => ?_)
        · repeat cell_call
          refine ⟨_, rfl, ?_⟩
          repeat cell_call
          rw [Int.zero_add]
          refine st_iD (fun h1 => ?_) (fun h1 => ?_)
          · repeat cell_call
            exact hy (decide_eq_true h1) _ (Same.refl _)
          · exact hn (decide_eq_false h1) _ (Same.refl _)
        rw [List.map_id'] at hN
        replace hN : H7 N = some (.lst ((cls ps i).map V.int)) := hN
        have hF7 := sm7 _ _ hF6
        have hM7 := sm7 _ _ hM
        have smB := same_tr sm7 smA
        clear nN hF6 hM hP6 smA sm7
        repeat cell_call
        have b1 := cls_le ws i
        have b2 := cls_le ps i
        refine ⟨M, N, _, _, rfl, hM7, hN, by omega, by omega, fun p H8 sm8 hp => ?_⟩
        have hF8 := sm8 _ _ hF7
        have smC := same_tr sm8 smB
        have b3 := fl [(i : Int)] i (List.mem_singleton_self _)
        generalize missC (cls ws i) (cls ps i) = mi at *
        generalize ((rgN i).flatMap fun g => missC (cls ws g) (cls ps g)) = fo at *
        repeat cell_call
        refine st_ext hF8 hp (by omega) ?_
        repeat cell_call
        refine ⟨same_trU nF0 smC, ?_, _, _, rfl⟩
        rw [upd_same]
        exact congrArg (fun l => some (HO.lst (l.map V.int))) step.symm
      · obtain ⟨sm5, hF, a, b, rfl⟩ := e
        replace hF : H5 F = some (.lst ((missF ws ps).map V.int)) := hF
        repeat cell_call
        exact q F _ sm5 hF

end
end Mc
namespace Mc
open PySem PySem.Spec PyProof.Rows L2
local macro_rules | `(tactic| lcg_src) => `(tactic| first
  | with_reducible assumption
  | ((with_reducible apply Ne.symm); with_reducible assumption)
  | ((with_reducible apply ne_nf); (with_reducible assumption); lcg_off)
  | ((with_reducible apply Ne.symm); (with_reducible apply ne_nf); (with_reducible assumption); lcg_off))
local macro_rules | `(tactic| lcg_off) => `(tactic| first
  | with_reducible assumption
  | (with_reducible exact upd_same)
  | ((with_reducible apply hp_ne); lcg_src; lcg_off)
  | ((with_reducible apply hp_same); (with_reducible assumption); lcg_off)
  | ((with_reducible apply hp_frm); (with_reducible assumption); lcg_src; lcg_off)
  | ((with_reducible apply hp_frm2); (with_reducible assumption); lcg_src; lcg_src; lcg_off)
  | assumption)
local macro_rules | `(tactic| kpt_turns) => `(tactic| first
  | with_reducible assumption
  | ((with_reducible apply SqL.of); lcg_off)
  | ((with_reducible apply SqT.of); lcg_off)
  | ((with_reducible apply Frm.seq); (with_reducible assumption); lcg_src; kpt_turns)
  | ((with_reducible apply Frm.tup); (with_reducible assumption); lcg_src; kpt_turns)
  | ((with_reducible apply Frm2.seq); (with_reducible assumption); lcg_src; lcg_src; kpt_turns)
  | ((with_reducible apply Frm2.tup); (with_reducible assumption); lcg_src; lcg_src; kpt_turns)
  | ((with_reducible apply L2.Same.seq); (with_reducible assumption); kpt_turns)
  | ((with_reducible apply Same.tup); (with_reducible assumption); kpt_turns)
  | assumption)
local macro_rules | `(tactic| k_memK) => `(tactic| first
  | with_reducible exact Frm.refl _
  | with_reducible assumption
  | ((with_reducible apply Frm.trN); (with_reducible assumption); k_memK)
  | ((with_reducible apply Frm.trU); k_memK)
  | ((with_reducible apply Frm.trM); (with_reducible assumption); k_memK)
  | ((with_reducible apply Frm.tr); (with_reducible assumption); k_memK)
  | ((with_reducible apply Frm.trS); (with_reducible assumption); k_memK)
  | with_reducible exact Frm2.refl _
  | ((with_reducible apply Frm2.trN); (with_reducible assumption); k_memK)
  | ((with_reducible apply Frm2.trU); k_memK)
  | ((with_reducible apply Frm2.trV); k_memK)
  | ((with_reducible apply Frm2.trM); (with_reducible assumption); k_memK)
  | ((with_reducible apply Frm2.tr); (with_reducible assumption); k_memK)
  | ((with_reducible apply Frm2.trS); (with_reducible assumption); k_memK))
local macro_rules | `(tactic| k_allIn) => `(tactic| first
  | with_reducible exact L2.Same.refl _
  | with_reducible assumption
  | ((with_reducible apply same_trN); (with_reducible assumption); k_allIn)
  | ((with_reducible apply same_trU); (with_reducible assumption); k_allIn)
  | ((with_reducible apply same_tr); (with_reducible assumption); k_allIn))
local macro_rules | `(tactic| k_ownIn) => `(tactic| first
  | with_reducible refine st_seq ?_
  | ((with_reducible refine' st_setF ?e ?_); (case e => intro x; (simp only [List.set_cons_zero, List.set_cons_succ]; exact rfl)))
  | with_reducible refine st_c ?_
  | ((with_reducible refine' st_var ?h ?_); (case h => exact rfl))
  | with_reducible refine st_op ?_
  | with_reducible refine st_I0 ?_
  | ((with_reducible refine' st_powL ?c ?e ?_); (case c => exact ⟨by decide, by decide, by decide⟩); (case e => (simp only [Int.reduceToNat, Int.reducePow]; exact rfl)))
  | ((with_reducible refine st_I ?h ?_); (case h => first | with_reducible assumption | (show (0 : Int) < _; omega) | exact ⟨by omega, by omega⟩ | exact .inl ⟨by omega, by omega⟩ | exact .inr ⟨by omega, by omega⟩ | exact ⟨by omega, by omega, by omega⟩))
  | with_reducible refine st_nil ?_
  | with_reducible refine st_cons ?_
  | with_reducible refine st_ret ?_
  | with_reducible refine st_call ?_
  | with_reducible refine st_cb ?_
  | with_reducible refine st_exb ?_
  | ((with_reducible refine' st_ixL ?h1 ?h2 ?_); (case h1 => kpt_turns); (case h2 => first | ((with_reducible apply at0); exact rfl) | ((with_reducible apply at1); exact rfl) | ((with_reducible apply at2); exact rfl) | ((with_reducible apply at3); exact rfl) | with_reducible assumption))
  | ((with_reducible refine' st_ixT ?h1 ?h2 ?_); (case h1 => kpt_turns); (case h2 => first | ((with_reducible apply at0); exact rfl) | ((with_reducible apply at1); exact rfl) | ((with_reducible apply at2); exact rfl) | with_reducible assumption))
  | ((with_reducible refine' st_ixP ?h1 ?h2 ?h3 ?h4 ?_); (case h1 => kpt_turns); (case h2 => (repeat constructor)); (case h3 => omega); (case h4 => (simp; omega)))
  | ((with_reducible refine' st_ixPT ?h1 ?h2 ?h3 ?h4 ?_); (case h1 => kpt_turns); (case h2 => (repeat constructor)); (case h3 => omega); (case h4 => (simp; omega)))
  | with_reducible refine st_tB ?_
  | with_reducible refine st_test ?_
  | with_reducible refine st_and ?_
  | with_reducible refine st_or ?_
  | with_reducible refine st_not ?_
  | with_reducible refine st_andV ?_
  | with_reducible refine st_orV ?_
  | with_reducible refine st_notV ?_
  | with_reducible refine st_chain ?_
  | with_reducible refine st_iT ?_
  | with_reducible refine st_iF ?_
  | with_reducible refine st_iNT ?_
  | with_reducible refine st_iNF ?_
  | with_reducible refine st_iRf ?_
  | with_reducible refine st_iNRf ?_
  | with_reducible refine st_asg ?_
  | ((with_reducible refine' st_parF ?e ?_); (case e => intro x y; (simp only [List.set_cons_zero, List.set_cons_succ]; exact rfl)))
  | with_reducible refine st_par2 ?_
  | with_reducible refine st_fst ?_
  | with_reducible refine st_jsE ?_
  | with_reducible refine st_js ?_
  | with_reducible refine st_fmt ?_
  | with_reducible refine st_joinK ?_
  | with_reducible refine st_strx ?_
  | ((with_reducible refine' st_par3F ?e ?_); (case e => intro x y z; (simp only [List.set_cons_zero, List.set_cons_succ]; exact rfl)))
  | with_reducible refine st_par3 ?_
  | ((with_reducible refine' st_augF ?h ?e ?_); (case h => exact rfl); (case e => intro x; (simp only [List.set_cons_zero, List.set_cons_succ]; exact rfl)))
  | with_reducible refine st_ipI ?_
  | with_reducible refine st_drop ?_
  | with_reducible refine st_next ?_
  | with_reducible refine st_un ?_
  | with_reducible refine st_U ?_
  | ((with_reducible refine' st_gNF ?e ?_); (case e => (simp only [List.set_cons_zero, List.set_cons_succ]; exact rfl)))
  | with_reducible refine st_gN ?_
  | ((with_reducible refine' st_gT ?h1 ?h2 ?_); (case h1 => kpt_turns); (case h2 => exact rfl))
  | with_reducible refine st_gC ?_
  | with_reducible refine st_gE ?_
  | with_reducible refine st_gS ?_
  | ((with_reducible refine' st_setL ?h1 ?h2 ?_); (case h1 => lcg_off); (case h2 => exact rfl))
  | with_reducible refine st_lst ?_
  | with_reducible refine st_tup ?_
  | ((with_reducible refine st_new ?h ?_); (case h => (simp; done)))
  | with_reducible refine st_callN ?_
  | with_reducible refine st_bm ?_
  | with_reducible refine st_bm0 ?_
  | ((with_reducible refine' st_tyL ?h ?_); (case h => kpt_turns))
  | ((with_reducible refine st_eq ?h ?_); (case h => exact rfl))
  | ((with_reducible refine st_ne ?h ?_); (case h => exact rfl))
  | with_reducible refine st_i1 ?_
  | with_reducible refine st_i2 ?_
  | with_reducible refine st_int ?_
  | with_reducible refine st_intb ?_
  | ((with_reducible refine' st_lenQ ?h ?_); (case h => kpt_turns))
  | ((with_reducible refine' st_lenQT ?h ?_); (case h => kpt_turns))
  | with_reducible refine st_yes ?_
  | with_reducible refine st_brk ?_
  | with_reducible refine st_cont ?_
  | with_reducible refine st_retN ?_
  | with_reducible refine st_forI ?_
  | with_reducible refine st_lcI ?_
  | with_reducible refine st_itL ?_
  | with_reducible refine st_itT ?_
  | with_reducible refine st_rng1 ?_
  | with_reducible refine st_rng2 ?_
  | with_reducible refine st_ref ?_
  | with_reducible refine st_sl ?_
  | with_reducible refine st_pN ?_
  | with_reducible refine st_pS ?_
  | with_reducible refine st_pI ?_
  | (refine ⟨rfl, ?_⟩))
local macro_rules | `(tactic| cell_call) => `(tactic| first
  | with_reducible refine st_seq ?_
  | ((with_reducible refine' st_setF ?e ?_); (case e => intro x; (simp only [List.set_cons_zero, List.set_cons_succ]; exact rfl)))
  | with_reducible refine st_c ?_
  | ((with_reducible refine' st_var ?h ?_); (case h => exact rfl))
  | with_reducible refine st_op ?_
  | with_reducible refine st_I0 ?_
  | ((with_reducible refine' st_powL ?c ?e ?_); (case c => exact ⟨by decide, by decide, by decide⟩); (case e => (simp only [Int.reduceToNat, Int.reducePow]; exact rfl)))
  | ((with_reducible refine st_I ?h ?_); (case h => first | with_reducible assumption | (show (0 : Int) < _; omega) | exact ⟨by omega, by omega⟩ | exact .inl ⟨by omega, by omega⟩ | exact .inr ⟨by omega, by omega⟩ | exact ⟨by omega, by omega, by omega⟩))
  | with_reducible refine st_nil ?_
  | with_reducible refine st_cons ?_
  | with_reducible refine st_ret ?_
  | with_reducible refine st_call ?_
  | with_reducible refine st_cb ?_
  | with_reducible refine st_exb ?_
  | ((with_reducible refine' st_ixL ?h1 ?h2 ?_); (case h1 => kpt_turns); (case h2 => first | ((with_reducible apply at0); exact rfl) | ((with_reducible apply at1); exact rfl) | ((with_reducible apply at2); exact rfl) | ((with_reducible apply at3); exact rfl) | with_reducible assumption))
  | ((with_reducible refine' st_ixT ?h1 ?h2 ?_); (case h1 => kpt_turns); (case h2 => first | ((with_reducible apply at0); exact rfl) | ((with_reducible apply at1); exact rfl) | ((with_reducible apply at2); exact rfl) | with_reducible assumption))
  | ((with_reducible refine' st_ixP ?h1 ?h2 ?h3 ?h4 ?_); (case h1 => kpt_turns); (case h2 => (repeat constructor)); (case h3 => omega); (case h4 => (simp; omega)))
  | ((with_reducible refine' st_ixPT ?h1 ?h2 ?h3 ?h4 ?_); (case h1 => kpt_turns); (case h2 => (repeat constructor)); (case h3 => omega); (case h4 => (simp; omega)))
  | with_reducible refine st_tB ?_
  | with_reducible refine st_test ?_
  | with_reducible refine st_and ?_
  | with_reducible refine st_or ?_
  | with_reducible refine st_not ?_
  | with_reducible refine st_andV ?_
  | with_reducible refine st_orV ?_
  | with_reducible refine st_notV ?_
  | with_reducible refine st_chain ?_
  | with_reducible refine st_iT ?_
  | with_reducible refine st_iF ?_
  | with_reducible refine st_iNT ?_
  | with_reducible refine st_iNF ?_
  | with_reducible refine st_iRf ?_
  | with_reducible refine st_iNRf ?_
  | with_reducible refine st_asg ?_
  | ((with_reducible refine' st_parF ?e ?_); (case e => intro x y; (simp only [List.set_cons_zero, List.set_cons_succ]; exact rfl)))
  | with_reducible refine st_par2 ?_
  | with_reducible refine st_fst ?_
  | with_reducible refine st_jsE ?_
  | with_reducible refine st_js ?_
  | with_reducible refine st_fmt ?_
  | with_reducible refine st_joinK ?_
  | with_reducible refine st_strx ?_
  | ((with_reducible refine' st_par3F ?e ?_); (case e => intro x y z; (simp only [List.set_cons_zero, List.set_cons_succ]; exact rfl)))
  | with_reducible refine st_par3 ?_
  | ((with_reducible refine' st_augF ?h ?e ?_); (case h => exact rfl); (case e => intro x; (simp only [List.set_cons_zero, List.set_cons_succ]; exact rfl)))
  | with_reducible refine st_ipI ?_
  | with_reducible refine st_drop ?_
  | with_reducible refine st_next ?_
  | with_reducible refine st_un ?_
  | with_reducible refine st_U ?_
  | ((with_reducible refine' st_gNF ?e ?_); (case e => (simp only [List.set_cons_zero, List.set_cons_succ]; exact rfl)))
  | with_reducible refine st_gN ?_
  | ((with_reducible refine' st_gT ?h1 ?h2 ?_); (case h1 => kpt_turns); (case h2 => exact rfl))
  | with_reducible refine st_gC ?_
  | with_reducible refine st_gE ?_
  | with_reducible refine st_gS ?_
  | ((with_reducible refine' st_setL ?h1 ?h2 ?_); (case h1 => lcg_off); (case h2 => exact rfl))
  | with_reducible refine st_lst ?_
  | with_reducible refine st_tup ?_
  | ((with_reducible refine st_new ?h ?_); (case h => (simp; done)))
  | with_reducible refine st_callN ?_
  | with_reducible refine st_bm ?_
  | with_reducible refine st_bm0 ?_
  | ((with_reducible refine' st_tyL ?h ?_); (case h => kpt_turns))
  | ((with_reducible refine st_eq ?h ?_); (case h => exact rfl))
  | ((with_reducible refine st_ne ?h ?_); (case h => exact rfl))
  | with_reducible refine st_i1 ?_
  | with_reducible refine st_i2 ?_
  | with_reducible refine st_int ?_
  | with_reducible refine st_intb ?_
  | ((with_reducible refine' st_lenQ ?h ?_); (case h => kpt_turns))
  | ((with_reducible refine' st_lenQT ?h ?_); (case h => kpt_turns))
  | with_reducible refine st_yes ?_
  | with_reducible refine st_brk ?_
  | with_reducible refine st_cont ?_
  | with_reducible refine st_retN ?_
  | with_reducible refine st_forI ?_
  | with_reducible refine st_lcI ?_
  | with_reducible refine st_itL ?_
  | with_reducible refine st_itT ?_
  | with_reducible refine st_rng1 ?_
  | with_reducible refine st_rng2 ?_
  | with_reducible refine st_ref ?_
  | with_reducible refine st_sl ?_
  | with_reducible refine st_pN ?_
  | with_reducible refine st_pS ?_
  | with_reducible refine st_pI ?_
  | (refine ⟨rfl, ?_⟩)
  | with_reducible refine st_ifE ?_
  | with_reducible refine st_ifS ?_)
local macro_rules | `(tactic| kpf_close) => `(tactic| first
  | cell_call
  | refine st_iD (fun _ => ?_) (fun _ => ?_)
  | refine st_iND (fun _ => ?_) (fun _ => ?_)
  | refine st_iNB (fun _ => ?_) (fun _ => ?_)
  | refine st_iB (fun _ => ?_) (fun _ => ?_))
local macro_rules | `(tactic| k_places) => `(tactic| first
  | with_reducible refine isi_non_bool ?_
  | with_reducible refine isi_non_int ?_
  | with_reducible refine isi_non_str ?_
  | with_reducible refine isi_non_list ?_
  | with_reducible refine isi_non_tuple ?_
  | with_reducible refine isi_bl_bool ?_
  | with_reducible refine isi_bl_int ?_
  | with_reducible refine isi_bl_str ?_
  | with_reducible refine isi_bl_list ?_
  | with_reducible refine isi_bl_tuple ?_
  | with_reducible refine isi_int_bool ?_
  | with_reducible refine isi_int_int ?_
  | with_reducible refine isi_int_str ?_
  | with_reducible refine isi_int_list ?_
  | with_reducible refine isi_int_tuple ?_
  | with_reducible refine isi_str_bool ?_
  | with_reducible refine isi_str_int ?_
  | with_reducible refine isi_str_str ?_
  | with_reducible refine isi_str_list ?_
  | with_reducible refine isi_str_tuple ?_
  | ((with_reducible refine' isi_list_bool ?h ?_); (case h => kpt_turns))
  | ((with_reducible refine' isi_list_int ?h ?_); (case h => kpt_turns))
  | ((with_reducible refine' isi_list_str ?h ?_); (case h => kpt_turns))
  | ((with_reducible refine' isi_list_list ?h ?_); (case h => kpt_turns))
  | ((with_reducible refine' isi_list_tuple ?h ?_); (case h => kpt_turns))
  | ((with_reducible refine' isi_tuple_bool ?h ?_); (case h => kpt_turns))
  | ((with_reducible refine' isi_tuple_int ?h ?_); (case h => kpt_turns))
  | ((with_reducible refine' isi_tuple_str ?h ?_); (case h => kpt_turns))
  | ((with_reducible refine' isi_tuple_list ?h ?_); (case h => kpt_turns))
  | ((with_reducible refine' isi_tuple_tuple ?h ?_); (case h => kpt_turns)))
local macro_rules | `(tactic| cell_call) => `(tactic| first
  | with_reducible refine st_zip ?_)
local macro_rules | `(tactic| k_ownIn) => `(tactic| first
  | with_reducible refine st_zip ?_)
local macro_rules | `(tactic| cell_call) => `(tactic| first
  | with_reducible refine st_disp ?_
  | with_reducible refine st_pr ?_
  | with_reducible refine st_prE ?_
  | with_reducible refine st_dget ?_
  | with_reducible refine st_dput ?_
  | with_reducible refine st_daug ?_
  | ((with_reducible refine' st_bgG ?h ?_); (case h => lcg_off))
  | ((with_reducible refine' st_bgL ?h ?_); (case h => lcg_off))
  | ((with_reducible refine' st_bgT ?h ?_); (case h => lcg_off))
  | ((with_reducible refine' st_bgF ?h ?_); (case h => lcg_off))
  | ((with_reducible refine' st_bpL ?h ?_); (case h => lcg_off)))
local macro_rules | `(tactic| k_ownIn) => `(tactic| first
  | with_reducible refine st_disp ?_
  | with_reducible refine st_pr ?_
  | with_reducible refine st_prE ?_
  | with_reducible refine st_dget ?_
  | with_reducible refine st_dput ?_
  | with_reducible refine st_daug ?_
  | ((with_reducible refine' st_bgG ?h ?_); (case h => lcg_off))
  | ((with_reducible refine' st_bgL ?h ?_); (case h => lcg_off))
  | ((with_reducible refine' st_bgT ?h ?_); (case h => lcg_off))
  | ((with_reducible refine' st_bgF ?h ?_); (case h => lcg_off))
  | ((with_reducible refine' st_bpL ?h ?_); (case h => lcg_off)))
local macro_rules | `(tactic| cell_call) => `(tactic| first
  | with_reducible refine st_veI ?_
  | with_reducible refine st_ost ?_
  | with_reducible refine st_mko ?_
  | with_reducible refine st_xv ?_
  | with_reducible refine st_lrg ?_
  | with_reducible refine st_callS ?_
  | with_reducible refine st_rg2 ?_
  | with_reducible refine st_rgE ?_)
local macro_rules | `(tactic| k_ownIn) => `(tactic| first
  | with_reducible refine st_veI ?_
  | with_reducible refine st_ost ?_
  | with_reducible refine st_mko ?_
  | with_reducible refine st_xv ?_
  | with_reducible refine st_lrg ?_
  | with_reducible refine st_callS ?_
  | with_reducible refine st_rg2 ?_
  | with_reducible refine st_rgE ?_)
local macro_rules | `(tactic| cell_call) => `(tactic| first
  | with_reducible refine st_inC ?_
  | with_reducible refine st_itS ?_
  | with_reducible refine st_itS1 ?_)
local macro_rules | `(tactic| k_ownIn) => `(tactic| first
  | with_reducible refine st_inC ?_
  | with_reducible refine st_itS ?_
  | with_reducible refine st_itS1 ?_)
local macro_rules | `(tactic| cell_call) => `(tactic| first
  | with_reducible refine st_frz ?_
  | with_reducible refine st_itI ?_
  | with_reducible refine st_dg2 ?_
  | with_reducible refine st_dput ?_
  | with_reducible refine st_scI ?_)
local macro_rules | `(tactic| cell_call) => `(tactic| first
  | with_reducible refine st_revI ?_)
local macro_rules | `(tactic| k_ownIn) => `(tactic| first
  | with_reducible refine st_revI ?_)
local macro_rules | `(tactic| cell_call) => `(tactic| first
  | with_reducible refine st_frzA ?_
  | with_reducible refine st_itK ?_)
local macro_rules | `(tactic| k_ownIn) => `(tactic| first
  | with_reducible refine st_frzA ?_
  | with_reducible refine st_itK ?_)
section
variable {P : Program} {w : World} {K : PySem.W.Frag} {mg : Str → Option Value} {base : Heap}
def sp_shortest_list (K : PySem.W.Frag) : Sp := fun vs H Q _ => ∃ (L : Addr) (ns : List Int), vs = [.ref L] ∧ SqL K H L (ns.map V.int) ∧ ns.length ≤ 3000 ∧
  ∀ p gs H', H p = none → Same H H' → Grp gs (srt (sms ns)) → gs.length ≤ 12 → H' p = some (.lst ((shL ns.sum gs).map V.int)) → Q (.ref p) H'
theorem ok_shortest_list (T : Txt K mg) : FnOk P w K mg base CX0 3 (He.ga K "shortest_list") T.fd_shortest_list ["steps"] (sp_shortest_list K) := by
  refine T.F_shortest_list.ok sc_shortest_list (fun vs H Q E h => ?_) (fun cdv A outer s H vs Q E hr h => ?_)
  · obtain ⟨L, ns, rfl, _⟩ := h
    rfl
  · obtain ⟨L, ns, rfl, hL, hl, q⟩ := h
    refine ⟨_, PSs.nox (pss_cons (ps_set (i := 1) sc_shortest_list.nd rfl (Or.inl rfl) (pe_callB (show CallR _ _ (rSum K) from (cr_sum rfl)) (by rfl) T.b_sum (by decide +kernel) (pa_cons (pv 0) pa_nil)))
      (pss_cons (ps_set (i := 2) sc_shortest_list.nd rfl (Or.inl rfl) (pe_lst pa_nil))
      (pss_cons (ps_for PassesOwn.never rfl (pi_items (pe_frz (pe_call (ok_years_by_remainder T) (hr.mono (by decide)) rfl T.g_years_by_remainder T.F_years_by_remainder.kp (b_years_by_remainder T) .nil pass0 (pa_cons (pe_call (ok_sums_of T) (hr.mono (by decide)) rfl T.g_sums_of T.F_sums_of.kp (b_sums_of T) .nil pass0 (pa_cons (pv 0) pa_nil)) pa_nil)))) (show PG _ _ (gTup K 2 _) from pg_tup rfl (pgs_cons (pg_name (i := 3) sc_shortest_list.nd rfl (Or.inr rfl)) (pgs_cons (pg_name (i := 4) sc_shortest_list.nd rfl (Or.inl rfl)) pgs_nil))) (pss_cons (ps_setLc (i := 5) (own := [("number", 8)]) (g := gName 8) rfl sc_shortest_list.nd rfl rfl (sw_true rfl rfl rfl (by decide +kernel)) (show PI _ _ _ (iTup K _) from pi_tup (pe_tup (pa_cons pe_int (pa_cons (pv 1) pa_nil)))) (blkOk_by (N := N_shortest_list) (sc := defScope s_shortest_list) (by decide +kernel)) (fun _ _ _ _ _ => (pg_name (i := 8) sc_shortest_list.nd rfl (Or.inl rfl))) (fun _ _ _ _ _ => (pts_one (pt_cmpR op_eqI (pe_op op_mod (pv 8) (pe_glob (v := .int (12)) rfl T.c_MONTHS.2 ⟨_, rfl⟩)) (pv 3) (nomark _)))) (fun _ _ _ _ _ => (pe_op op_fdiv (pv 8) (pe_glob (v := .int (12)) rfl T.c_MONTHS.2 ⟨_, rfl⟩))))
      (pss_cons (ps_set (i := 6) sc_shortest_list.nd rfl (Or.inl rfl) (pe_call (ok_missing_years T) (hr.mono (by decide)) rfl T.g_missing_years T.F_missing_years.kp (b_missing_years T) .nil pass0 (pa_cons (pe_call (ok_normal_years T) (hr.mono (by decide)) rfl T.g_normal_years T.F_normal_years.kp (b_normal_years T) .nil pass0 (pa_cons (pv 4) pa_nil)) (pa_cons (pv 5) pa_nil))))
      (pss_one (ps_expr (show PE _ _ (tBM K _ _ _ _) from pe_bm PySem.F.plainAttrs_list PySem.F.slot_list_extend PySem.F.type_list_extend mt_extend (pv 2) (pa_cons (pe_lc (own := [("year", 9)]) (g := gName 9) (tt := tYes) rfl sc_shortest_list.nd (show PI _ _ _ (iList K _) from pi_list (pv 6)) (blkOk_by (N := N_shortest_list) (sc := defScope s_shortest_list) (by decide +kernel)) (fun _ _ _ _ _ => (pg_name (i := 9) sc_shortest_list.nd rfl (Or.inl rfl))) (fun _ _ _ _ _ => pts_nil) (fun _ _ _ _ _ => (pe_op op_add (pe_op op_mul (pe_glob (v := .int (12)) rfl T.c_MONTHS.2 ⟨_, rfl⟩) (pv 9)) (pv 3)))) pa_nil)))))))
      (pss_cons (ps_if (PW.pt (pw_and (pt_cmpR op_eqI (pv 1) pe_int (nomark _)) (pw_and1 (pt_cmpR (show OpR _ _ (rEqD K) from (op_eqD hr.units)) (pv 2) (pe_lst pa_nil) (nomark _))))) (pss_one (ps_ret (pe_lst pa_nil))) pss_nil)
      (pss_cons (ps_set (i := 7) sc_shortest_list.nd rfl (Or.inl rfl) (pe_op op_cat (pe_op op_cat (pe_lst (pa_cons pe_int pa_nil)) (pe_callB (show CallR _ _ (rSortedI K) from cr_sortedI) (by rfl) T.b_sorted (by decide +kernel) (pa_cons (pv 2) pa_nil))) (pe_lst (pa_cons (pv 1) pa_nil))))
      (pss_one (ps_ret (pe_lc (own := [("earlier", 10), ("later", 11)]) (tt := tYes) rfl sc_shortest_list.nd (show PI _ _ _ (iZip K _) from pi_zip (by rfl) T.b_zip (pa_cons (pv 7) (pa_cons (pe_slice (show SlR _ (rSlL K) from sl_list) (pv 7) (po_some pe_int) po_none) pa_nil))) (blkOk_by (N := N_shortest_list) (sc := defScope s_shortest_list) (by decide +kernel)) (fun _ _ _ _ _ => (show PG _ _ (gTup K 2 _) from pg_tup rfl (pgs_cons (pg_name (i := 10) sc_shortest_list.nd rfl (Or.inl rfl)) (pgs_cons (pg_name (i := 11) sc_shortest_list.nd rfl (Or.inl rfl)) pgs_nil)))) (fun _ _ _ _ _ => pts_nil) (fun _ _ _ _ _ => (pe_op op_sub (pv 11) (pv 10))))))))))), ?_⟩
    rw [start_shortest_list]
    repeat cell_call
    refine ⟨L, ns, rfl, hL, ?_⟩
    repeat cell_call
    intro F nF
    have hF : (upd H F (.lst [])) F = some (.lst []) := upd_same
    have sm1 : Same H (upd H F (.lst [])) := Same.new nF
    have hL1 := sm1.seq hL
    generalize upd H F (.lst []) = H1 at *
    repeat cell_call
    refine ⟨L, ns, rfl, hL1, hl, fun S H2 nS sm2 hS => ?_⟩
    have hF2 := sm2 _ _ hF
    have smB := same_tr sm2 sm1
    have sl := srt_len (sms ns)
    rw [sms_len] at sl
    clear nS hF sm2 sm1 hL1
    repeat cell_call
    refine ⟨S, srt (sms ns), rfl, SqL.of hS, by omega, fun d es gs H3 nd sm3 hd dg G nw => ?_⟩
    have nwF : ∀ k a, (k, V.ref a) ∈ es → a ≠ F := fun k a m => Ne.symm (ne_of_none hF2 (nw k a m))
    clear nw
    have hF3 := sm3 _ _ hF2
    have smC := same_tr sm3 smB
    have edF : F ≠ d := ne_of_none hF2 nd
    have nd0 := same_free nd smB
    clear nd hF2 sm3 smB hS
    refine ⟨d, es, rfl, hd, fun od => ?_⟩
    have hd4 : (upd H3 d (.frz od (.dK es))) d = some (.frz od (.dK es)) := upd_same
    have hF4 := hp_ne (o' := .frz od (.dK es)) edF hF3
    have sm4 : Same H (upd H3 d (.frz od (.dK es))) := same_trU nd0 smC
    have dg4 : DG (upd H3 d (.frz od (.dK es))) es gs := dg.off fun b xs e => hp_ne (fun z => by rw [z, hd] at e; cases e) e
    generalize upd H3 d (.frz od (.dK es)) = H4 at *
    clear hd hF3 smC dg
    refine ⟨d, od, es, rfl, hd4, ?_⟩
    have el := dg4.len
    have gl := gs_le G
    generalize hT : ns.sum = tot at *
    refine fI (fun i σ' H' => Same H H' ∧ H' d = some (.frz od (.dK es)) ∧ H' F = some (.lst ((shP tot (gs.take i)).map V.int)) ∧ DG H' es gs ∧ ∃ a b c e f g h j k, σ' = [some (.ref L), some (.int tot), some (.ref F), a, b, c, e, f, g, h, j, k]) ⟨sm4, hd4, hF4, dg4, none, none, none, none, none, none, none, none, none, rfl⟩ (fun i σ' H' _ e => e.2.1) (fun i k v T σ' H5 hi e nT => ?_) (fun σ' H5 e => ?_)
    · clear sm4 hd4 hF4 dg4 q
      obtain ⟨sm5, hd5, hF5, dg5, a1, a2, a3, a4, a5, a6, a7, a8, a9, rfl⟩ := e
      obtain ⟨g, a, gg, rfl, rfl, ha⟩ := dg5.at hi
      have gm := List.mem_of_getElem? gg
      obtain ⟨g0, g1, ge, gne⟩ := G.is g gm
      have yl := yrs_le (srt (sms ns)) g.1
      rw [← ge] at yl
      have fl : (shP tot (gs.take i)).length ≤ 600 := by
        have z := shP_le (T := tot) (gs.take i)
        rw [List.length_take] at z
        omega
      have step : shP tot (gs.take (i + 1)) = shP tot (gs.take i) ++ shG tot g.1 g.2 := by
        unfold shP
        rw [List.take_add_one, gg, List.flatMap_append]
        simp
      rw [show kV (.inl g.1) = V.int g.1 from rfl]
      have hd6 := hp_ne (o' := .tup [.int g.1, .ref a]) (ne_of_none hd5 nT) hd5
      have hF6 := hp_ne (o' := .tup [.int g.1, .ref a]) (ne_of_none hF5 nT) hF5
      have ha6 := hp_ne (o' := .tup [.int g.1, .ref a]) (ne_of_none ha nT) ha
      have dg6 := dg5.same (Same.new (o := .tup [.int g.1, .ref a]) nT)
      have hT : (upd H5 T (.tup [.int g.1, .ref a])) T = some (.tup [.int g.1, .ref a]) := upd_same
      have sm6 : Same H (upd H5 T (.tup [.int g.1, .ref a])) := same_trN nT sm5
      generalize upd H5 T (.tup [.int g.1, .ref a]) = H6 at *
      have sgl := shG_le (T := tot) (r := g.1) (ys := g.2)
      unfold shG at step sgl
      generalize shP tot (gs.take (i + 1)) = nx at *
      generalize shP tot (gs.take i) = fo at *
      clear nT hd5 hF5 ha dg5 sm5 hi gg gm G ge
      obtain ⟨gk, gy⟩ := g
      simp only at *
      repeat cell_call
      intro U nU
      have hd7 := hp_ne (o' := .tup [.int 0, .int tot]) (ne_of_none hd6 nU) hd6
      have hF7 := hp_ne (o' := .tup [.int 0, .int tot]) (ne_of_none hF6 nU) hF6
      have ha7 := hp_ne (o' := .tup [.int 0, .int tot]) (ne_of_none ha6 nU) ha6
      have dg7 := dg6.same (Same.new (o := .tup [.int 0, .int tot]) nU)
      have hU : (upd H6 U (.tup [.int 0, .int tot])) U = some (.tup (([0, tot] : List Int).map V.int)) := upd_same
      have sm7 : Same H (upd H6 U (.tup [.int 0, .int tot])) := same_trN nU sm6
      generalize upd H6 U (.tup [.int 0, .int tot]) = H7 at *
      clear nU hd6 hF6 ha6 dg6 sm6 hT
      repeat cell_call
      refine ⟨⟨_, SqT.of hU⟩, fun C nC => ?_⟩
      refine lcFT (fun n => decide (n % 12 = gk)) (fun n => n / 12) (SqT.of hU) nC (by show 2 ≤ 100000; decide) (fun k H' R RF _ sm2 hy hn => ?_) (fun H8 sm8 hC => ?_)
      · repeat cell_call
        refine st_iD (fun h1 => ?_) (fun h1 => ?_)
        · repeat cell_call
          exact hy (decide_eq_true h1) _ (Same.refl _)
        · exact hn (decide_eq_false h1) _ (Same.refl _)
      replace hC : H8 C = some (.lst ((yrs [0, tot] gk).map V.int)) := hC
      have hd8 := sm8 _ _ hd7
      have hF8 := sm8 _ _ hF7
      have ha8 := sm8 _ _ ha7
      have dg8 := dg7.same sm8
      have smA := same_tr sm8 sm7
      have pl := pres_le tot gk
      generalize yrs [0, tot] gk = ps at *
      clear nC hd7 hF7 ha7 dg7 sm7 sm8 hU
      repeat cell_call
      refine ⟨a, gy, rfl, SqL.of ha8, gne, by omega, fun Y H9 nY' sm9 hY => ?_⟩
      have hd9 := sm9 _ _ hd8
      have hF9 := sm9 _ _ hF8
      have hC9 := sm9 _ _ hC
      have dg9 := dg8.same sm9
      have smB := same_tr sm9 smA
      have yl2 := nY_le (gy.headD 0 % 4) gy
      generalize nY (gy.headD 0 % 4) gy = yy at *
      clear hd8 hF8 dg8 sm9 smA nY' ha8 hC
      repeat cell_call
      refine ⟨Y, C, yy, ps, rfl, hY, hC9, yl2, by omega, fun M HA smA hM => ?_⟩
      have hdA := smA _ _ hd9
      have hFA := smA _ _ hF9
      have dgA := dg9.same smA
      have smC := same_tr smA smB
      generalize missY yy ps = mi at *
      rw [List.length_map] at sgl
      clear hd9 hF9 dg9 hY hC9 smA smB
      repeat cell_call
      refine ⟨⟨_, SqL.of hM⟩, fun E nE => ?_⟩
      refine lcFM (fun _ => true) (fun y => 12 * y + gk) (SqL.of hM) nE (by omega) (fun k H' R RF _ sm2 hy hn => ?_) (fun HB smB hE => ?_)
      · repeat cell_call
        exact hy rfl _ (Same.refl _)
      rw [filter_true] at hE
      have hdB := smB _ _ hdA
      have hFB := smB _ _ hFA
      have dgB := dgA.same smB
      have smD := same_tr smB smC
      clear hdA hFA dgA smB smC nE hM
      repeat cell_call
      refine st_ext (ms := mi.map fun y => 12 * y + gk) hFB hE (by rw [List.length_map]; omega) ?_
      repeat cell_call
      have edF2 : d ≠ F := Ne.symm edF
      exact ⟨same_trU nF smD, hp_ne edF2 hdB, by rw [upd_same, step], dgB.upd nwF, _, _, _, _, _, _, _, _, _, rfl⟩
    · obtain ⟨sm5, hd5, hF5, dg5, a1, a2, a3, a4, a5, a6, a7, a8, a9, rfl⟩ := e
      rw [el, List.take_length] at hF5
      have fl : (shP tot gs).length ≤ 600 := by
        have z := shP_le (T := tot) gs
        omega
      have q2 := fun p H' n s => q p gs H' n s G gl
      clear sm4 hd4 hF4 dg4 hd5 dg5 q G
      unfold shL at q2
      generalize shP tot gs = X at *
      repeat k_ownIn
      refine st_cutS (fun σ2 H2 => σ2 = [some (.ref L), some (.int tot), some (.ref F), a1, a2, a3, a4, a5, a6, a7, a8, a9] ∧ Same H H2 ∧ H2 F = some (.lst (X.map V.int)) ∧ ¬ (tot = 0 ∧ X = [])) ?_ ?_
      · clear hF5 sm5
        rintro σ2 H6 ⟨rfl, sm6, hF6, hn⟩
        rw [if_neg hn] at q2
        repeat cell_call
        intro Z nZ
        have hZ : (upd H6 Z (.lst [.int 0])) Z = some (.lst (([0] : List Int).map V.int)) := upd_same
        have hF7 := hp_ne (o' := .lst [.int 0]) (ne_of_none hF6 nZ) hF6
        have sm7 : Same H (upd H6 Z (.lst [.int 0])) := same_trN nZ sm6
        generalize upd H6 Z (.lst [.int 0]) = H7 at *
        clear nZ hF6 sm6
        repeat cell_call
        refine ⟨F, _, rfl, SqL.of hF7, fun ms R pm pw nR => ?_⟩
        rw [srtD_of pm pw]
        have xl := srtD_len X
        have hR : (upd H7 R (.lst ((srtD X).map V.int))) R = some (.lst ((srtD X).map V.int)) := upd_same
        have hZ8 := hp_ne (o' := .lst ((srtD X).map V.int)) (ne_of_none hZ nR) hZ
        have sm8 : Same H (upd H7 R (.lst ((srtD X).map V.int))) := same_trN nR sm7
        generalize upd H7 R (.lst ((srtD X).map V.int)) = H8 at *
        clear nR hF7 hZ sm7 pm pw hn
        generalize srtD X = Y at *
        refine st_catI (ns := [0]) (ms := Y) hZ8 hR (by show 1 + Y.length < 100000; omega) fun A nA => ?_
        have hA : (upd H8 A (.lst (([0] ++ Y).map V.int))) A = some (.lst (([0] ++ Y).map V.int)) := upd_same
        have sm9 : Same H (upd H8 A (.lst (([0] ++ Y).map V.int))) := same_trN nA sm8
        generalize upd H8 A (.lst (([0] ++ Y).map V.int)) = H9 at *
        clear nA hZ8 hR sm8
        repeat cell_call
        intro B nB
        have hB : (upd H9 B (.lst [.int tot])) B = some (.lst (([tot] : List Int).map V.int)) := upd_same
        have hA2 := hp_ne (o' := .lst [.int tot]) (ne_of_none hA nB) hA
        have smA : Same H (upd H9 B (.lst [.int tot])) := same_trN nB sm9
        generalize upd H9 B (.lst [.int tot]) = HA at *
        clear nB hA sm9
        refine st_catI (ns := [0] ++ Y) (ms := [tot]) hA2 hB (by show Y.length + 1 + 1 < 100000; omega) fun C nC => ?_
        have hC : (upd HA C (.lst (([0] ++ Y ++ [tot]).map V.int))) C = some (.lst ((0 :: (Y ++ [tot])).map V.int)) := upd_same
        have smB : Same H (upd HA C (.lst (([0] ++ Y ++ [tot]).map V.int))) := same_trN nC smA
        have tl : (Y ++ [tot]).length = Y.length + 1 := by rw [List.length_append]; rfl
        generalize upd HA C (.lst (([0] ++ Y ++ [tot]).map V.int)) = HB at *
        generalize Y ++ [tot] = gs2 at *
        clear nC hA2 hB smA
        repeat cell_call
        refine st_slFrom (c := 1) (SqL.of hC) (by decide) (by rw [List.length_cons]; omega) fun D nD => ?_
        have hD : (upd HB D (.lst (((0 :: gs2).drop (1 : Int).toNat).map V.int))) D = some (.lst (gs2.map V.int)) := upd_same
        have hC2 := hp_ne (o' := .lst (((0 :: gs2).drop (1 : Int).toNat).map V.int)) (ne_of_none hC nD) hC
        have smC : Same H (upd HB D (.lst (((0 :: gs2).drop (1 : Int).toNat).map V.int))) := same_trN nD smB
        generalize upd HB D (.lst (((0 :: gs2).drop (1 : Int).toNat).map V.int)) = HC at *
        clear nD hC smB
        repeat cell_call
        refine ⟨C, D, _, _, rfl, SqL.of hC2, SqL.of hD, ?_⟩
        intro E nE
        have nE0 := same_free nE smC
        have eCE := ne_of_none hC2 nE
        have eDE := ne_of_none hD nE
        refine lcZ (xs := (0 :: gs2).map V.int) (ys := gs2.map V.int) (by simp) (fun i H' => Same H H' ∧ H' C = some (.lst ((0 :: gs2).map V.int)) ∧ H' D = some (.lst (gs2.map V.int)) ∧ H' E = some (.lst (((dif 0 gs2).take i).map V.int)))
          ⟨same_trN nE smC, hp_ne (ne_of_none hC2 nE) hC2, hp_ne (ne_of_none hD nE) hD, upd_same⟩ (fun i H' e => ⟨SqL.of e.2.1, SqL.of e.2.2.1⟩) (fun i x y T H9 hx hy e nT => ?_) (fun H9 e => ?_)
        · clear smC hC2 hD nE q2
          obtain ⟨sm, hC, hD, hE⟩ := e
          obtain ⟨x, gx, rfl⟩ := int_at hx
          obtain ⟨y, gy, rfl⟩ := int_at hy
          have eTE := ne_of_none hE nT
          have eTC := ne_of_none hC nT
          have eTD := ne_of_none hD nT
          have ig := (List.getElem?_eq_some_iff.mp gy).1
          repeat cell_call
          refine ⟨_, hp_ne eTE hE, len_lt (by rw [List.length_map, List.length_take, dif_len]; omega), same_trU nE0 (same_trN nT sm), hp_ne eCE (hp_ne eTC hC), hp_ne eDE (hp_ne eTD hD), ?_⟩
          rw [upd_same, List.take_add_one, dif_get gx gy, List.map_append]
          rfl
        · clear smC hC2 hD nE
          obtain ⟨sm, hC, hD, hE⟩ := e
          rw [List.length_map, List.take_of_length_le (by rw [dif_len]; exact Nat.le_refl _)] at hE
          exact q2 E _ nE0 sm hE
      · intro nx' hk
        repeat cell_call
        refine st_iD (fun h1 => ?_) (fun h1 => ?_)
        · repeat cell_call
          intro Z nZ
          have hF6 := hp_ne (o' := .lst []) (ne_of_none hF5 nZ) hF5
          have sm6 := same_trN (o := .lst []) nZ sm5
          refine st_eqI (ms := []) (SqL.of hF6) (SqL.of upd_same) ?_
          repeat cell_call
          refine st_iD (fun h2 => ?_) (fun h2 => ?_)
          · rw [if_pos ⟨h1, h2⟩] at q2
            repeat cell_call
            intro W nW
            exact q2 W _ (same_free nW sm6) (same_trN nW sm6) upd_same
          · repeat cell_call
            exact hk _ _ ⟨rfl, sm6, hF6, fun z => h2 z.2⟩
        · repeat cell_call
          exact hk _ _ ⟨rfl, sm5, hF5, fun z => h1 z.1⟩

def sp_fewest_steps (K : PySem.W.Frag) : Sp := fun vs H Q _ => ∃ (L : Addr) (ns : List Int), vs = [.ref L] ∧ SqL K H L (ns.map V.int) ∧ ns.length ≤ 3000 ∧ ∀ H', Same H H' → Q (.int (fw ns)) H'
theorem ok_fewest_steps (T : Txt K mg) : FnOk P w K mg base CX0 4 (He.ga K "fewest_steps") T.fd_fewest_steps ["steps"] (sp_fewest_steps K) := by
  refine T.F_fewest_steps.ok sc_fewest_steps (fun vs H Q E h => ?_) (fun cdv A outer s H vs Q E hr h => ?_)
  · obtain ⟨L, ns, rfl, _⟩ := h
    rfl
  · obtain ⟨L, ns, rfl, hL, hl, q⟩ := h
    refine ⟨_, PSs.nox (pss_one (ps_ret (pe_callB (show CallR _ _ (rLenQ K) from call_lenQ) (by rfl) T.b_len PySem.boot_len (pa_cons (pe_call (ok_shortest_list T) (hr.mono (by decide)) rfl T.g_shortest_list T.F_shortest_list.kp (b_shortest_list T) .nil pass0 (pa_cons (pv 0) pa_nil)) pa_nil)))), ?_⟩
    rw [start_fewest_steps]
    repeat cell_call
    refine ⟨L, ns, rfl, hL, hl, fun p gs H1 np sm G gl hp => ?_⟩
    have e := shL_len G
    generalize shL ns.sum gs = ks at *
    repeat cell_call
    rw [List.length_map, e]
    repeat cell_call
    exact q _ sm

end
end Mc
namespace Mc
open PySem PySem.Spec PyProof.Rows L2
local macro_rules | `(tactic| lcg_src) => `(tactic| first
  | with_reducible assumption
  | ((with_reducible apply Ne.symm); with_reducible assumption)
  | ((with_reducible apply ne_nf); (with_reducible assumption); lcg_off)
  | ((with_reducible apply Ne.symm); (with_reducible apply ne_nf); (with_reducible assumption); lcg_off))
local macro_rules | `(tactic| lcg_off) => `(tactic| first
  | with_reducible assumption
  | (with_reducible exact upd_same)
  | ((with_reducible apply hp_ne); lcg_src; lcg_off)
  | ((with_reducible apply hp_same); (with_reducible assumption); lcg_off)
  | ((with_reducible apply hp_frm); (with_reducible assumption); lcg_src; lcg_off)
  | ((with_reducible apply hp_frm2); (with_reducible assumption); lcg_src; lcg_src; lcg_off)
  | assumption)
local macro_rules | `(tactic| kpt_turns) => `(tactic| first
  | with_reducible assumption
  | ((with_reducible apply SqL.of); lcg_off)
  | ((with_reducible apply SqT.of); lcg_off)
  | ((with_reducible apply Frm.seq); (with_reducible assumption); lcg_src; kpt_turns)
  | ((with_reducible apply Frm.tup); (with_reducible assumption); lcg_src; kpt_turns)
  | ((with_reducible apply Frm2.seq); (with_reducible assumption); lcg_src; lcg_src; kpt_turns)
  | ((with_reducible apply Frm2.tup); (with_reducible assumption); lcg_src; lcg_src; kpt_turns)
  | ((with_reducible apply L2.Same.seq); (with_reducible assumption); kpt_turns)
  | ((with_reducible apply Same.tup); (with_reducible assumption); kpt_turns)
  | assumption)
local macro_rules | `(tactic| k_memK) => `(tactic| first
  | with_reducible exact Frm.refl _
  | with_reducible assumption
  | ((with_reducible apply Frm.trN); (with_reducible assumption); k_memK)
  | ((with_reducible apply Frm.trU); k_memK)
  | ((with_reducible apply Frm.trM); (with_reducible assumption); k_memK)
  | ((with_reducible apply Frm.tr); (with_reducible assumption); k_memK)
  | ((with_reducible apply Frm.trS); (with_reducible assumption); k_memK)
  | with_reducible exact Frm2.refl _
  | ((with_reducible apply Frm2.trN); (with_reducible assumption); k_memK)
  | ((with_reducible apply Frm2.trU); k_memK)
  | ((with_reducible apply Frm2.trV); k_memK)
  | ((with_reducible apply Frm2.trM); (with_reducible assumption); k_memK)
  | ((with_reducible apply Frm2.tr); (with_reducible assumption); k_memK)
  | ((with_reducible apply Frm2.trS); (with_reducible assumption); k_memK))
local macro_rules | `(tactic| k_allIn) => `(tactic| first
  | with_reducible exact L2.Same.refl _
  | with_reducible assumption
  | ((with_reducible apply same_trN); (with_reducible assumption); k_allIn)
  | ((with_reducible apply same_trU); (with_reducible assumption); k_allIn)
  | ((with_reducible apply same_tr); (with_reducible assumption); k_allIn))
local macro_rules | `(tactic| k_ownIn) => `(tactic| first
  | with_reducible refine st_seq ?_
  | ((with_reducible refine' st_setF ?e ?_); (case e => intro x; (simp only [List.set_cons_zero, List.set_cons_succ]; exact rfl)))
  | with_reducible refine st_c ?_
  | ((with_reducible refine' st_var ?h ?_); (case h => exact rfl))
  | with_reducible refine st_op ?_
  | with_reducible refine st_I0 ?_
  | ((with_reducible refine' st_powL ?c ?e ?_); (case c => exact ⟨by decide, by decide, by decide⟩); (case e => (simp only [Int.reduceToNat, Int.reducePow]; exact rfl)))
  | ((with_reducible refine st_I ?h ?_); (case h => first | with_reducible assumption | (show (0 : Int) < _; omega) | exact ⟨by omega, by omega⟩ | exact .inl ⟨by omega, by omega⟩ | exact .inr ⟨by omega, by omega⟩ | exact ⟨by omega, by omega, by omega⟩))
  | with_reducible refine st_nil ?_
  | with_reducible refine st_cons ?_
  | with_reducible refine st_ret ?_
  | with_reducible refine st_call ?_
  | with_reducible refine st_cb ?_
  | with_reducible refine st_exb ?_
  | ((with_reducible refine' st_ixL ?h1 ?h2 ?_); (case h1 => kpt_turns); (case h2 => first | ((with_reducible apply at0); exact rfl) | ((with_reducible apply at1); exact rfl) | ((with_reducible apply at2); exact rfl) | ((with_reducible apply at3); exact rfl) | with_reducible assumption))
  | ((with_reducible refine' st_ixT ?h1 ?h2 ?_); (case h1 => kpt_turns); (case h2 => first | ((with_reducible apply at0); exact rfl) | ((with_reducible apply at1); exact rfl) | ((with_reducible apply at2); exact rfl) | with_reducible assumption))
  | ((with_reducible refine' st_ixP ?h1 ?h2 ?h3 ?h4 ?_); (case h1 => kpt_turns); (case h2 => (repeat constructor)); (case h3 => omega); (case h4 => (simp; omega)))
  | ((with_reducible refine' st_ixPT ?h1 ?h2 ?h3 ?h4 ?_); (case h1 => kpt_turns); (case h2 => (repeat constructor)); (case h3 => omega); (case h4 => (simp; omega)))
  | with_reducible refine st_tB ?_
  | with_reducible refine st_test ?_
  | with_reducible refine st_and ?_
  | with_reducible refine st_or ?_
  | with_reducible refine st_not ?_
  | with_reducible refine st_andV ?_
  | with_reducible refine st_orV ?_
  | with_reducible refine st_notV ?_
  | with_reducible refine st_chain ?_
  | with_reducible refine st_iT ?_
  | with_reducible refine st_iF ?_
  | with_reducible refine st_iNT ?_
  | with_reducible refine st_iNF ?_
  | with_reducible refine st_iRf ?_
  | with_reducible refine st_iNRf ?_
  | with_reducible refine st_asg ?_
  | ((with_reducible refine' st_parF ?e ?_); (case e => intro x y; (simp only [List.set_cons_zero, List.set_cons_succ]; exact rfl)))
  | with_reducible refine st_par2 ?_
  | with_reducible refine st_fst ?_
  | with_reducible refine st_jsE ?_
  | with_reducible refine st_js ?_
  | with_reducible refine st_fmt ?_
  | with_reducible refine st_joinK ?_
  | with_reducible refine st_strx ?_
  | ((with_reducible refine' st_par3F ?e ?_); (case e => intro x y z; (simp only [List.set_cons_zero, List.set_cons_succ]; exact rfl)))
  | with_reducible refine st_par3 ?_
  | ((with_reducible refine' st_augF ?h ?e ?_); (case h => exact rfl); (case e => intro x; (simp only [List.set_cons_zero, List.set_cons_succ]; exact rfl)))
  | with_reducible refine st_ipI ?_
  | with_reducible refine st_drop ?_
  | with_reducible refine st_next ?_
  | with_reducible refine st_un ?_
  | with_reducible refine st_U ?_
  | ((with_reducible refine' st_gNF ?e ?_); (case e => (simp only [List.set_cons_zero, List.set_cons_succ]; exact rfl)))
  | with_reducible refine st_gN ?_
  | ((with_reducible refine' st_gT ?h1 ?h2 ?_); (case h1 => kpt_turns); (case h2 => exact rfl))
  | with_reducible refine st_gC ?_
  | with_reducible refine st_gE ?_
  | with_reducible refine st_gS ?_
  | ((with_reducible refine' st_setL ?h1 ?h2 ?_); (case h1 => lcg_off); (case h2 => exact rfl))
  | with_reducible refine st_lst ?_
  | with_reducible refine st_tup ?_
  | ((with_reducible refine st_new ?h ?_); (case h => (simp; done)))
  | with_reducible refine st_callN ?_
  | with_reducible refine st_bm ?_
  | with_reducible refine st_bm0 ?_
  | ((with_reducible refine' st_tyL ?h ?_); (case h => kpt_turns))
  | ((with_reducible refine st_eq ?h ?_); (case h => exact rfl))
  | ((with_reducible refine st_ne ?h ?_); (case h => exact rfl))
  | with_reducible refine st_i1 ?_
  | with_reducible refine st_i2 ?_
  | with_reducible refine st_int ?_
  | with_reducible refine st_intb ?_
  | ((with_reducible refine' st_lenQ ?h ?_); (case h => kpt_turns))
  | ((with_reducible refine' st_lenQT ?h ?_); (case h => kpt_turns))
  | with_reducible refine st_yes ?_
  | with_reducible refine st_brk ?_
  | with_reducible refine st_cont ?_
  | with_reducible refine st_retN ?_
  | with_reducible refine st_forI ?_
  | with_reducible refine st_lcI ?_
  | with_reducible refine st_itL ?_
  | with_reducible refine st_itT ?_
  | with_reducible refine st_rng1 ?_
  | with_reducible refine st_rng2 ?_
  | with_reducible refine st_ref ?_
  | with_reducible refine st_sl ?_
  | with_reducible refine st_pN ?_
  | with_reducible refine st_pS ?_
  | with_reducible refine st_pI ?_
  | (refine ⟨rfl, ?_⟩))
local macro_rules | `(tactic| cell_call) => `(tactic| first
  | with_reducible refine st_seq ?_
  | ((with_reducible refine' st_setF ?e ?_); (case e => intro x; (simp only [List.set_cons_zero, List.set_cons_succ]; exact rfl)))
  | with_reducible refine st_c ?_
  | ((with_reducible refine' st_var ?h ?_); (case h => exact rfl))
  | with_reducible refine st_op ?_
  | with_reducible refine st_I0 ?_
  | ((with_reducible refine' st_powL ?c ?e ?_); (case c => exact ⟨by decide, by decide, by decide⟩); (case e => (simp only [Int.reduceToNat, Int.reducePow]; exact rfl)))
  | ((with_reducible refine st_I ?h ?_); (case h => first | with_reducible assumption | (show (0 : Int) < _; omega) | exact ⟨by omega, by omega⟩ | exact .inl ⟨by omega, by omega⟩ | exact .inr ⟨by omega, by omega⟩ | exact ⟨by omega, by omega, by omega⟩))
  | with_reducible refine st_nil ?_
  | with_reducible refine st_cons ?_
  | with_reducible refine st_ret ?_
  | with_reducible refine st_call ?_
  | with_reducible refine st_cb ?_
  | with_reducible refine st_exb ?_
  | ((with_reducible refine' st_ixL ?h1 ?h2 ?_); (case h1 => kpt_turns); (case h2 => first | ((with_reducible apply at0); exact rfl) | ((with_reducible apply at1); exact rfl) | ((with_reducible apply at2); exact rfl) | ((with_reducible apply at3); exact rfl) | with_reducible assumption))
  | ((with_reducible refine' st_ixT ?h1 ?h2 ?_); (case h1 => kpt_turns); (case h2 => first | ((with_reducible apply at0); exact rfl) | ((with_reducible apply at1); exact rfl) | ((with_reducible apply at2); exact rfl) | with_reducible assumption))
  | ((with_reducible refine' st_ixP ?h1 ?h2 ?h3 ?h4 ?_); (case h1 => kpt_turns); (case h2 => (repeat constructor)); (case h3 => omega); (case h4 => (simp; omega)))
  | ((with_reducible refine' st_ixPT ?h1 ?h2 ?h3 ?h4 ?_); (case h1 => kpt_turns); (case h2 => (repeat constructor)); (case h3 => omega); (case h4 => (simp; omega)))
  | with_reducible refine st_tB ?_
  | with_reducible refine st_test ?_
  | with_reducible refine st_and ?_
  | with_reducible refine st_or ?_
  | with_reducible refine st_not ?_
  | with_reducible refine st_andV ?_
  | with_reducible refine st_orV ?_
  | with_reducible refine st_notV ?_
  | with_reducible refine st_chain ?_
  | with_reducible refine st_iT ?_
  | with_reducible refine st_iF ?_
  | with_reducible refine st_iNT ?_
  | with_reducible refine st_iNF ?_
  | with_reducible refine st_iRf ?_
  | with_reducible refine st_iNRf ?_
  | with_reducible refine st_asg ?_
  | ((with_reducible refine' st_parF ?e ?_); (case e => intro x y; (simp only [List.set_cons_zero, List.set_cons_succ]; exact rfl)))
  | with_reducible refine st_par2 ?_
  | with_reducible refine st_fst ?_
  | with_reducible refine st_jsE ?_
  | with_reducible refine st_js ?_
  | with_reducible refine st_fmt ?_
  | with_reducible refine st_joinK ?_
  | with_reducible refine st_strx ?_
  | ((with_reducible refine' st_par3F ?e ?_); (case e => intro x y z; (simp only [List.set_cons_zero, List.set_cons_succ]; exact rfl)))
  | with_reducible refine st_par3 ?_
  | ((with_reducible refine' st_augF ?h ?e ?_); (case h => exact rfl); (case e => intro x; (simp only [List.set_cons_zero, List.set_cons_succ]; exact rfl)))
  | with_reducible refine st_ipI ?_
  | with_reducible refine st_drop ?_
  | with_reducible refine st_next ?_
  | with_reducible refine st_un ?_
  | with_reducible refine st_U ?_
  | ((with_reducible refine' st_gNF ?e ?_); (case e => (simp only [List.set_cons_zero, List.set_cons_succ]; exact rfl)))
  | with_reducible refine st_gN ?_
  | ((with_reducible refine' st_gT ?h1 ?h2 ?_); (case h1 => kpt_turns); (case h2 => exact rfl))
  | with_reducible refine st_gC ?_
  | with_reducible refine st_gE ?_
  | with_reducible refine st_gS ?_
  | ((with_reducible refine' st_setL ?h1 ?h2 ?_); (case h1 => lcg_off); (case h2 => exact rfl))
  | with_reducible refine st_lst ?_
  | with_reducible refine st_tup ?_
  | ((with_reducible refine st_new ?h ?_); (case h => (simp; done)))
  | with_reducible refine st_callN ?_
  | with_reducible refine st_bm ?_
  | with_reducible refine st_bm0 ?_
  | ((with_reducible refine' st_tyL ?h ?_); (case h => kpt_turns))
  | ((with_reducible refine st_eq ?h ?_); (case h => exact rfl))
  | ((with_reducible refine st_ne ?h ?_); (case h => exact rfl))
  | with_reducible refine st_i1 ?_
  | with_reducible refine st_i2 ?_
  | with_reducible refine st_int ?_
  | with_reducible refine st_intb ?_
  | ((with_reducible refine' st_lenQ ?h ?_); (case h => kpt_turns))
  | ((with_reducible refine' st_lenQT ?h ?_); (case h => kpt_turns))
  | with_reducible refine st_yes ?_
  | with_reducible refine st_brk ?_
  | with_reducible refine st_cont ?_
  | with_reducible refine st_retN ?_
  | with_reducible refine st_forI ?_
  | with_reducible refine st_lcI ?_
  | with_reducible refine st_itL ?_
  | with_reducible refine st_itT ?_
  | with_reducible refine st_rng1 ?_
  | with_reducible refine st_rng2 ?_
  | with_reducible refine st_ref ?_
  | with_reducible refine st_sl ?_
  | with_reducible refine st_pN ?_
  | with_reducible refine st_pS ?_
  | with_reducible refine st_pI ?_
  | (refine ⟨rfl, ?_⟩)
  | with_reducible refine st_ifE ?_
  | with_reducible refine st_ifS ?_)
local macro_rules | `(tactic| kpf_close) => `(tactic| first
  | cell_call
  | refine st_iD (fun _ => ?_) (fun _ => ?_)
  | refine st_iND (fun _ => ?_) (fun _ => ?_)
  | refine st_iNB (fun _ => ?_) (fun _ => ?_)
  | refine st_iB (fun _ => ?_) (fun _ => ?_))
local macro_rules | `(tactic| k_places) => `(tactic| first
  | with_reducible refine isi_non_bool ?_
  | with_reducible refine isi_non_int ?_
  | with_reducible refine isi_non_str ?_
  | with_reducible refine isi_non_list ?_
  | with_reducible refine isi_non_tuple ?_
  | with_reducible refine isi_bl_bool ?_
  | with_reducible refine isi_bl_int ?_
  | with_reducible refine isi_bl_str ?_
  | with_reducible refine isi_bl_list ?_
  | with_reducible refine isi_bl_tuple ?_
  | with_reducible refine isi_int_bool ?_
  | with_reducible refine isi_int_int ?_
  | with_reducible refine isi_int_str ?_
  | with_reducible refine isi_int_list ?_
  | with_reducible refine isi_int_tuple ?_
  | with_reducible refine isi_str_bool ?_
  | with_reducible refine isi_str_int ?_
  | with_reducible refine isi_str_str ?_
  | with_reducible refine isi_str_list ?_
  | with_reducible refine isi_str_tuple ?_
  | ((with_reducible refine' isi_list_bool ?h ?_); (case h => kpt_turns))
  | ((with_reducible refine' isi_list_int ?h ?_); (case h => kpt_turns))
  | ((with_reducible refine' isi_list_str ?h ?_); (case h => kpt_turns))
  | ((with_reducible refine' isi_list_list ?h ?_); (case h => kpt_turns))
  | ((with_reducible refine' isi_list_tuple ?h ?_); (case h => kpt_turns))
  | ((with_reducible refine' isi_tuple_bool ?h ?_); (case h => kpt_turns))
  | ((with_reducible refine' isi_tuple_int ?h ?_); (case h => kpt_turns))
  | ((with_reducible refine' isi_tuple_str ?h ?_); (case h => kpt_turns))
  | ((with_reducible refine' isi_tuple_list ?h ?_); (case h => kpt_turns))
  | ((with_reducible refine' isi_tuple_tuple ?h ?_); (case h => kpt_turns)))
local macro_rules | `(tactic| cell_call) => `(tactic| first
  | with_reducible refine st_zip ?_)
local macro_rules | `(tactic| k_ownIn) => `(tactic| first
  | with_reducible refine st_zip ?_)
local macro_rules | `(tactic| cell_call) => `(tactic| first
  | with_reducible refine st_disp ?_
  | with_reducible refine st_pr ?_
  | with_reducible refine st_prE ?_
  | with_reducible refine st_dget ?_
  | with_reducible refine st_dput ?_
  | with_reducible refine st_daug ?_
  | ((with_reducible refine' st_bgG ?h ?_); (case h => lcg_off))
  | ((with_reducible refine' st_bgL ?h ?_); (case h => lcg_off))
  | ((with_reducible refine' st_bgT ?h ?_); (case h => lcg_off))
  | ((with_reducible refine' st_bgF ?h ?_); (case h => lcg_off))
  | ((with_reducible refine' st_bpL ?h ?_); (case h => lcg_off)))
local macro_rules | `(tactic| k_ownIn) => `(tactic| first
  | with_reducible refine st_disp ?_
  | with_reducible refine st_pr ?_
  | with_reducible refine st_prE ?_
  | with_reducible refine st_dget ?_
  | with_reducible refine st_dput ?_
  | with_reducible refine st_daug ?_
  | ((with_reducible refine' st_bgG ?h ?_); (case h => lcg_off))
  | ((with_reducible refine' st_bgL ?h ?_); (case h => lcg_off))
  | ((with_reducible refine' st_bgT ?h ?_); (case h => lcg_off))
  | ((with_reducible refine' st_bgF ?h ?_); (case h => lcg_off))
  | ((with_reducible refine' st_bpL ?h ?_); (case h => lcg_off)))
local macro_rules | `(tactic| cell_call) => `(tactic| first
  | with_reducible refine st_veI ?_
  | with_reducible refine st_ost ?_
  | with_reducible refine st_mko ?_
  | with_reducible refine st_xv ?_
  | with_reducible refine st_lrg ?_
  | with_reducible refine st_callS ?_
  | with_reducible refine st_rg2 ?_
  | with_reducible refine st_rgE ?_)
local macro_rules | `(tactic| k_ownIn) => `(tactic| first
  | with_reducible refine st_veI ?_
  | with_reducible refine st_ost ?_
  | with_reducible refine st_mko ?_
  | with_reducible refine st_xv ?_
  | with_reducible refine st_lrg ?_
  | with_reducible refine st_callS ?_
  | with_reducible refine st_rg2 ?_
  | with_reducible refine st_rgE ?_)
local macro_rules | `(tactic| cell_call) => `(tactic| first
  | with_reducible refine st_inC ?_
  | with_reducible refine st_itS ?_
  | with_reducible refine st_itS1 ?_)
local macro_rules | `(tactic| k_ownIn) => `(tactic| first
  | with_reducible refine st_inC ?_
  | with_reducible refine st_itS ?_
  | with_reducible refine st_itS1 ?_)
local macro_rules | `(tactic| cell_call) => `(tactic| first
  | with_reducible refine st_frz ?_
  | with_reducible refine st_itI ?_
  | with_reducible refine st_dg2 ?_
  | with_reducible refine st_dput ?_
  | with_reducible refine st_scI ?_)
local macro_rules | `(tactic| cell_call) => `(tactic| first
  | with_reducible refine st_revI ?_)
local macro_rules | `(tactic| k_ownIn) => `(tactic| first
  | with_reducible refine st_revI ?_)
local macro_rules | `(tactic| cell_call) => `(tactic| first
  | with_reducible refine st_frzA ?_
  | with_reducible refine st_itK ?_)
local macro_rules | `(tactic| k_ownIn) => `(tactic| first
  | with_reducible refine st_frzA ?_
  | with_reducible refine st_itK ?_)
section
variable {P : Program} {w : World} {K : PySem.W.Frag} {mg : Str → Option Value} {base : Heap}
/-- a source of draws at S: its numbers are bounded; c: how often it has mixed at most -/
def RngAt (H : Hp) (S : Addr) (c : Int) : Prop := ∃ a b n : Int, H S = some (.lst [.int a, .int b, .int n]) ∧ 0 ≤ b ∧ b ≤ 2305843009213693951 ∧ 0 ≤ n ∧ n ≤ c
theorem RngAt.mono {H : Hp} {S : Addr} {c c' : Int} (h : RngAt H S c) (l : c ≤ c') : RngAt H S c' := by
  obtain ⟨a, b, n, h1, h2, h3, h4, h5⟩ := h
  exact ⟨a, b, n, h1, h2, h3, h4, by omega⟩
theorem RngAt.ne {H : Hp} {S p : Addr} {c : Int} (h : RngAt H S c) (n : H p = none) : p ≠ S := by
  obtain ⟨a, b, n', h1, _⟩ := h
  exact Ne.symm (ne_of_none h1 n)
theorem RngAt.same {H H' : Hp} {S : Addr} {c : Int} (h : RngAt H S c) (e : Same H H') : RngAt H' S c := by
  obtain ⟨a, b, n', h1, h2⟩ := h
  exact ⟨a, b, n', e _ _ h1, h2⟩
theorem RngAt.new {H : Hp} {S p : Addr} {o : HO} {c : Int} (h : RngAt H S c) (n : H p = none) : RngAt (upd H p o) S c := h.same (Same.new n)
theorem RngAt.off {H : Hp} {S p : Addr} {o : HO} {c : Int} (h : RngAt H S c) (n : p ≠ S) : RngAt (upd H p o) S c := by
  obtain ⟨a, b, k, h1, h2⟩ := h
  exact ⟨a, b, k, hp_ne n.symm h1, h2⟩
theorem pow_stp (i : Nat) (d r : Int) (d0 : 0 ≤ d) (d1 : d < 2 ^ (200 * (i + 1))) (r0 : 0 ≤ r) (r1 : r < 10 ^ 60) : 0 ≤ d * 10 ^ 60 + r ∧ d * 10 ^ 60 + r < 2 ^ (200 * (i + 1 + 1)) := by
  have e : (2 : Int) ^ (200 * (i + 1 + 1)) = 2 ^ (200 * (i + 1)) * 2 ^ 200 := by rw [← Int.pow_add]; congr 1
  have p : (10 : Int) ^ 60 < 2 ^ 200 := by decide
  have h := Int.mul_nonneg d0 (show (0 : Int) ≤ 10 ^ 60 by decide)
  refine ⟨by omega, ?_⟩
  rw [e]
  have a : (d + 1) * 10 ^ 60 ≤ 2 ^ (200 * (i + 1)) * 10 ^ 60 := Int.mul_le_mul_of_nonneg_right (by omega) (by decide)
  have b : (2 : Int) ^ (200 * (i + 1)) * 10 ^ 60 ≤ 2 ^ (200 * (i + 1)) * 2 ^ 200 := Int.mul_le_mul_of_nonneg_left (by omega) (by omega)
  rw [Int.add_mul, Int.one_mul] at a
  omega
theorem nat_pow_lt {d : Int} {n : Nat} (d0 : 0 ≤ d) (h : d < 2 ^ n) : d.natAbs < 2 ^ n := by
  have e : ((2 ^ n : Nat) : Int) = (2 : Int) ^ n := by norm_cast
  omega
def sp_law_rng (K : PySem.W.Frag) : Sp := fun vs H Q _ => ∃ (A : Addr) (ns : List Int), vs = [.ref A] ∧ SqL K H A (ns.map V.int) ∧
  ∀ p H', H p = none → Same H H' → RngAt H' p 0 → Q (.ref p) H'
theorem ok_law_rng (T : Txt K mg) : FnOk P w K mg base CX0 1 (He.ga K "_law_rng") T.fd_law_rng ["script"] (sp_law_rng K) := by
  refine T.F_law_rng.ok sc_law_rng (fun vs H Q E h => ?_) (fun cdv A outer s H vs Q E hr h => ?_)
  · obtain ⟨A, ns, rfl, _⟩ := h
    rfl
  · obtain ⟨A, ns, rfl, hA, q⟩ := h
    refine ⟨_, PSs.nox (pss_cons (ps_asg (pe_tup (pa_cons pe_int (pa_cons pe_int pa_nil))) (show PG _ _ (gTup K 2 _) from pg_tup rfl (pgs_cons (pg_name (i := 1) sc_law_rng.nd rfl (Or.inl rfl)) (pgs_cons (pg_name (i := 2) sc_law_rng.nd rfl (Or.inl rfl)) pgs_nil))))
      (pss_cons (ps_for PassesOwn.never rfl (show PI _ _ _ (iList K _) from pi_list (pe_slice (show SlR _ (rSlL K) from sl_list) (pv 0) po_none (po_some pe_int))) (pg_name (i := 3) sc_law_rng.nd rfl (Or.inl rfl)) (pss_cons (ps_set (i := 4) sc_law_rng.nd rfl (Or.inl rfl) (pe_callB call_absI (by rfl) T.b_abs (by decide +kernel) (pa_cons (pv 3) pa_nil)))
      (pss_cons (ps_if (pt_cmpR op_ge (pv 4) (pe_op op_pow pe_int pe_int) (nomark _)) (pss_one (ps_set (i := 1) sc_law_rng.nd rfl (Or.inl rfl) (pe_op op_add (pe_op op_mulW (pv 1) (pe_op op_pow pe_int pe_int)) (pe_op op_mod (pv 4) (pe_op op_pow pe_int pe_int))))) pss_nil)
      (pss_one (ps_set (i := 2) sc_law_rng.nd rfl (Or.inl rfl) (pe_op op_mod (pe_op op_add (pe_op op_add (pe_op op_mul (pv 2) pe_int) (pe_op op_mod (pv 3) pe_int)) pe_int) pe_int))))))
      (pss_one (ps_ret (pe_lst (pa_cons (pv 1) (pa_cons (pv 2) (pa_cons pe_int pa_nil)))))))), ?_⟩
    rw [start_law_rng]
    repeat cell_call
    intro T nT
    have hA1 : SqL K (upd H T (.tup [.int 0, .int 88675123])) A (ns.map V.int) := (Same.new nT).seq hA
    have hT : (upd H T (.tup [.int 0, .int 88675123])) T = some (.tup [.int 0, .int 88675123]) := upd_same
    have sm1 : Same H (upd H T (.tup [.int 0, .int 88675123])) := Same.new nT
    generalize upd H T (.tup [.int 0, .int 88675123]) = H1 at *
    clear nT
    repeat cell_call
    refine st_slUp (c := 63) hA1 (by decide) fun U nU => ?_
    have hU : (upd H1 U (.lst ((ns.take 63).map V.int))) U = some (.lst ((ns.take 63).map V.int)) := upd_same
    have sm2 : Same H (upd H1 U (.lst ((ns.take (63 : Int).toNat).map V.int))) := same_trN nU sm1
    change (upd H1 U (.lst ((ns.take (63 : Int).toNat).map V.int))) U = some (.lst ((ns.take (63 : Int).toNat).map V.int)) at hU
    have ll : (ns.take (63 : Int).toNat).length ≤ 63 := by
      rw [List.length_take]
      show min 63 _ ≤ 63
      omega
    generalize (ns.take (63 : Int).toNat) = ms at *
    generalize upd H1 U (.lst (ms.map V.int)) = H2 at *
    clear nU sm1 hA1 hT
    repeat cell_call
    refine ⟨⟨_, SqL.of hU⟩, fL (xs := ms.map V.int) (fun i σ' H' => Same H H' ∧ H' U = some (.lst (ms.map V.int)) ∧ ∃ (d f : Int) (x y : Option V), σ' = [some (.ref A), some (.int d), some (.int f), x, y] ∧ 0 ≤ d ∧ d < 2 ^ (200 * (i + 1)) ∧ 0 ≤ f ∧ f ≤ 2305843009213693951)
      ⟨sm2, hU, 0, 88675123, none, none, rfl, by decide, by decide, by decide, by decide⟩ (fun i σ' H' _ e => SqL.of e.2.1) (fun i x σ' H' hx e => ?_) (fun σ' H' e => ?_)⟩
    · clear hU sm2
      obtain ⟨sm, hU, d, f, x', y', rfl, d0, d1, f0, f1⟩ := e
      obtain ⟨k, hk, rfl⟩ := int_at hx
      have hi := (List.getElem?_eq_some_iff.mp hk).1
      have b0 : 0 ≤ (f * 1000003 + k % 2305843009213693921 + 7) % 2305843009213693951 := Int.emod_nonneg _ (by decide)
      have b1 : (f * 1000003 + k % 2305843009213693921 + 7) % 2305843009213693951 ≤ 2305843009213693951 := Int.le_of_lt (Int.emod_lt_of_pos _ (by decide))
      repeat cell_call
      refine st_iD (fun h1 => ?_) (fun h1 => ?_)
      · have z := pow_stp i d (max k (-k) % 10 ^ 60) d0 d1 (Int.emod_nonneg _ (by decide)) (Int.emod_lt_of_pos _ (by decide))
        have w := nat_pow_lt d0 d1
        repeat cell_call
        refine st_I (wide_mul w (b := 200) (by decide) (by omega) (by decide) (by omega)) ?_
        repeat cell_call
        exact ⟨sm, hU, _, _, _, _, rfl, z.1, z.2, b0, b1⟩
      · have z : (2 : Int) ^ (200 * (i + 1)) ≤ 2 ^ (200 * (i + 1 + 1)) := by
          rw [show 200 * (i + 1 + 1) = 200 * (i + 1) + 200 by omega, Int.pow_add]
          have y := Int.mul_le_mul_of_nonneg_left (show (1 : Int) ≤ 2 ^ 200 by decide) (show (0 : Int) ≤ 2 ^ (200 * (i + 1)) by omega)
          rw [Int.mul_one] at y
          exact y
        repeat cell_call
        exact ⟨sm, hU, _, _, _, _, rfl, d0, Int.lt_of_lt_of_le d1 z, b0, b1⟩
    · clear hU sm2
      obtain ⟨sm, hU, d, f, x', y', rfl, d0, d1, f0, f1⟩ := e
      repeat cell_call
      intro p np
      exact q p _ (same_free np sm) (same_trN np sm) ⟨_, _, _, upd_same, by omega, by omega, by omega, by omega⟩

def sp_law_draw (K : PySem.W.Frag) : Sp := fun vs H Q _ => ∃ (S : Addr) (m c : Int), vs = [.ref S, .int m] ∧ RngAt H S c ∧ c ≤ 1000000000000 ∧ 0 < m ∧ m ≤ 10000000000000000000000000000000000000000 ∧
  ∀ r H', 0 ≤ r → r < m → RngAt H' S (c + 1) → Frm S H H' → Q (.int r) H'
theorem ok_law_draw (T : Txt K mg) : FnOk P w K mg base CX0 1 (He.ga K "_law_draw") T.fd_law_draw ["rng", "limit"] (sp_law_draw K) := by
  refine T.F_law_draw.ok sc_law_draw (fun vs H Q E h => ?_) (fun cdv A outer s H vs Q E hr h => ?_)
  · obtain ⟨S, m, c, rfl, _⟩ := h
    rfl
  · obtain ⟨S, m, c, rfl, ⟨a, b, n, hS, b0, b1, n0, n1⟩, hc, m0, m1, q⟩ := h
    refine ⟨_, PSs.nox (pss_cons (ps_if (pt_cmpR op_gt (pe_ix (show IxR _ (rIxL K) from ix_list) (pv 0) pe_int (fun _ _ => rfl)) pe_int (nomark _)) (pss_cons (ps_set (i := 2) sc_law_draw.nd rfl (Or.inl rfl) (pe_op op_mod (pe_ix (show IxR _ (rIxL K) from ix_list) (pv 0) pe_int (fun _ _ => rfl)) (pv 1)))
      (pss_cons (ps_asg (pe_op op_fdivW (pe_ix (show IxR _ (rIxL K) from ix_list) (pv 0) pe_int (fun _ _ => rfl)) (pv 1)) (pg_sub (pv 0) pe_int set_list))
      (pss_one (ps_ret (pv 2))))) pss_nil)
      (pss_cons (ps_asg (pe_op op_add (pe_ix (show IxR _ (rIxL K) from ix_list) (pv 0) pe_int (fun _ _ => rfl)) pe_int) (pg_sub (pv 0) pe_int set_list))
      (pss_cons (ps_set (i := 3) sc_law_draw.nd rfl (Or.inl rfl) (pe_op op_mod (pe_op op_powW (pe_op op_add (pe_ix (show IxR _ (rIxL K) from ix_list) (pv 0) pe_int (fun _ _ => rfl)) (pe_op op_mul pe_int (pe_ix (show IxR _ (rIxL K) from ix_list) (pv 0) pe_int (fun _ _ => rfl)))) pe_int) pe_int))
      (pss_cons (ps_set (i := 3) sc_law_draw.nd rfl (Or.inl rfl) (pe_op op_mod (pe_op op_powW (pe_op op_add (pv 3) (pe_op op_mul pe_int (pe_ix (show IxR _ (rIxL K) from ix_list) (pv 0) pe_int (fun _ _ => rfl)))) pe_int) pe_int))
      (pss_one (ps_ret (pe_op op_mod (pe_op op_fdiv (pv 3) pe_int) (pv 1)))))))), ?_⟩
    rw [start_law_draw]
    repeat cell_call
    refine st_iD (fun hl => ?_) (fun hl => ?_)
    · repeat cell_call
      refine st_I (wide_div m0 (b := 200) (nat_of (by omega) (by omega)) (by decide) (by decide)) ?_
      repeat cell_call
      exact q _ _ (Int.emod_nonneg _ (by omega)) (Int.emod_lt_of_pos _ m0) ⟨_, b, n, upd_same, b0, b1, n0, by omega⟩ Frm.set
    · repeat cell_call
      refine st_I (powW_of (b := 80) (nat_of (by omega) (by omega)) (by decide) (by decide) (by decide)) ?_
      repeat cell_call
      refine st_I (powW_of (b := 120) (nat_of (by omega) (by omega)) (by decide) (by decide) (by decide)) ?_
      repeat cell_call
      exact q _ _ (Int.emod_nonneg _ (by omega)) (Int.emod_lt_of_pos _ m0) ⟨_, b, _, upd_same, b0, b1, by omega, by omega⟩ Frm.set

def sp_law_one (K : PySem.W.Frag) : Sp := fun vs H Q _ => ∃ (S : Addr) (k c : Int), vs = [.ref S, .int k] ∧ RngAt H S c ∧ c ≤ 100000000000 ∧ 0 ≤ k ∧ k ≤ 5 ∧
  ∀ r H', -1000000000000000000000000000000000 ≤ r → r ≤ 1000000000000000000000000000000000 → RngAt H' S (c + 1) → Frm S H H' → Q (.int r) H'
theorem ok_law_one (T : Txt K mg) : FnOk P w K mg base CX0 2 (He.ga K "_law_one") T.fd_law_one ["rng", "kind"] (sp_law_one K) := by
  refine T.F_law_one.ok sc_law_one (fun vs H Q E h => ?_) (fun cdv A outer s H vs Q E hr h => ?_)
  · obtain ⟨S, k, c, rfl, _⟩ := h
    rfl
  · obtain ⟨S, k, c, rfl, P0, hc, k0, k1, q⟩ := h
    refine ⟨_, PSs.nox (pss_cons (ps_set (i := 2) sc_law_one.nd rfl (Or.inl rfl) (pe_ix (show IxR _ (rIxL K) from ix_list) (pe_lst (pa_cons pe_int (pa_cons pe_int (pa_cons pe_int (pa_cons pe_int (pa_cons pe_int (pa_cons (pe_op op_add (pe_op op_mul pe_int (pe_op op_pow pe_int pe_int)) pe_int) pa_nil))))))) (pv 1) (fun _ _ => rfl)))
      (pss_one (ps_ret (pe_op op_mul (pe_ix (show IxR _ (rIxL K) from ix_list) (pe_lst (pa_cons pe_int (pa_cons pe_int (pa_cons pe_int (pa_cons pe_int (pa_cons pe_int (pa_cons pe_int pa_nil))))))) (pv 1) (fun _ _ => rfl)) (pe_op op_sub (pe_call (ok_law_draw T) (hr.mono (by decide)) rfl T.g_law_draw T.F_law_draw.kp (b_law_draw T) .nil pass0 (pa_cons (pv 0) (pa_cons (pv 2) pa_nil))) (pe_op op_fdiv (pv 2) pe_int)))))), ?_⟩
    rw [start_law_one]
    repeat cell_call
    intro L1 n1
    have P1 := P0.new (o := .lst [.int 27, .int 9, .int 201, .int 9, .int 5, .int (2 * 10000000000000000000000000000 + 1)]) n1
    have F1 : Frm S H (upd H L1 (.lst [.int 27, .int 9, .int 201, .int 9, .int 5, .int (2 * 10000000000000000000000000000 + 1)])) := Same.frm (Same.new n1)
    repeat cell_call
    intro sz hsz
    generalize upd H L1 (.lst [.int 27, .int 9, .int 201, .int 9, .int 5, .int (2 * 10000000000000000000000000000 + 1)]) = H1 at *
    replace hsz := List.mem_of_getElem? hsz
    simp only [List.mem_cons, List.not_mem_nil, or_false] at hsz
    have s0 : 0 < sz ∧ sz ≤ 20000000000000000000000000001 := by omega
    clear hsz
    repeat cell_call
    intro L2 n2
    have P2 := P1.new (o := .lst [.int 1, .int 12, .int 48, .int 1200, .int 4800, .int 1]) n2
    have F2 : Frm S H (upd H1 L2 (.lst [.int 1, .int 12, .int 48, .int 1200, .int 4800, .int 1])) := F1.trans (Same.frm (Same.new n2))
    repeat cell_call
    intro f hf
    generalize upd H1 L2 (.lst [.int 1, .int 12, .int 48, .int 1200, .int 4800, .int 1]) = H2 at *
    replace hf := List.mem_of_getElem? hf
    simp only [List.mem_cons, List.not_mem_nil, or_false] at hf
    repeat cell_call
    refine ⟨S, _, _, rfl, P2, by omega, by omega, by omega, fun r H3 a3 b3 P3 F3 => ?_⟩
    have F4 := F2.trans F3
    clear F1 F2 F3 P2 P1 P0
    rcases hf with rfl | rfl | rfl | rfl | rfl | rfl
    all_goals (repeat cell_call)
    all_goals exact q _ _ (by omega) (by omega) P3 F4

def sp_law_moves (K : PySem.W.Frag) : Sp := fun vs H Q _ => ∃ (S : Addr) (m c : Int), vs = [.ref S, .int m] ∧ RngAt H S c ∧ c ≤ 10000000000 ∧ 0 ≤ m ∧ m ≤ 60 ∧
  ∀ (p : Addr) (ns : List Int) (H' : Hp), H p = none → RngAt H' S (c + 1000) → Frm S H H' → H' p = some (.lst (ns.map V.int)) → ns.length ≤ m →
    (∀ k ∈ ns, -1000000000000000000000000000000000 ≤ k ∧ k ≤ 1000000000000000000000000000000000) → Q (.ref p) H'
theorem ok_law_moves (T : Txt K mg) : FnOk P w K mg base CX0 3 (He.ga K "_law_moves") T.fd_law_moves ["rng", "most"] (sp_law_moves K) := by
  refine T.F_law_moves.ok sc_law_moves (fun vs H Q E h => ?_) (fun cdv A outer s H vs Q E hr h => ?_)
  · obtain ⟨S, m, c, rfl, _⟩ := h
    rfl
  · obtain ⟨S, m, c, rfl, P0, hc, m0, m1, q⟩ := h
    refine ⟨_, PSs.nox (pss_cons (ps_set (i := 2) sc_law_moves.nd rfl (Or.inr rfl) (pe_ix (show IxR _ (rIxL K) from ix_list) (pe_lst (pa_cons (pe_lst (pa_cons pe_int pa_nil)) (pa_cons (pe_lst (pa_cons pe_int (pa_cons pe_int (pa_cons pe_int pa_nil)))) (pa_cons (pe_lst (pa_cons pe_int (pa_cons pe_int (pa_cons pe_int (pa_cons pe_int pa_nil))))) (pa_cons (pe_lst (pa_cons pe_int (pa_cons pe_int (pa_cons pe_int (pa_cons pe_int (pa_cons pe_int (pa_cons pe_int pa_nil))))))) (pa_cons (pe_lst (pa_cons pe_int (pa_cons pe_int (pa_cons pe_int pa_nil)))) pa_nil)))))) (pe_call (ok_law_draw T) (hr.mono (by decide)) rfl T.g_law_draw T.F_law_draw.kp (b_law_draw T) .nil pass0 (pa_cons (pv 0) (pa_cons pe_int pa_nil))) (fun _ _ => rfl)))
      (pss_one (ps_ret (pe_lc (own := [("turn", 3)]) (g := gName 3) (tt := tYes) rfl sc_law_moves.nd (pi_range1 (by rfl) T.b_range (pa_cons (pe_call (ok_law_draw T) (hr.mono (by decide)) rfl T.g_law_draw T.F_law_draw.kp (b_law_draw T) .nil pass0 (pa_cons (pv 0) (pa_cons (pe_op op_add (pv 1) pe_int) pa_nil))) pa_nil)) (blkOk_by (N := N_law_moves) (sc := defScope s_law_moves) (by decide +kernel)) (fun _ _ _ _ _ => (pg_name (i := 3) sc_law_moves.nd rfl (Or.inl rfl))) (fun _ _ _ _ _ => pts_nil) (fun _ _ _ _ _ => (pe_call (ok_law_one T) (hr.mono (by decide)) rfl T.g_law_one T.F_law_one.kp (b_law_one T) .nil pass0 (pa_cons (pv 0) (pa_cons (pe_ix (show IxR _ (rIxL K) from ix_list) (pv 2) (pe_call (ok_law_draw T) (hr.mono (by decide)) rfl T.g_law_draw T.F_law_draw.kp (b_law_draw T) .nil pass0 (pa_cons (pv 0) (pa_cons (pe_callB (show CallR _ _ (rLenQ K) from call_lenQ) (by rfl) T.b_len PySem.boot_len (pa_cons (pv 2) pa_nil)) pa_nil))) (fun _ _ => rfl)) pa_nil)))))))), ?_⟩
    rw [start_law_moves]
    repeat cell_call
    intro L1 n1
    have e1 := P0.ne n1
    have h1 : (upd H L1 (.lst [.int 0])) L1 = some (.lst ([0].map V.int)) := upd_same
    have P1 := P0.new (o := .lst [.int 0]) n1
    have sm1 : Same H (upd H L1 (.lst [.int 0])) := Same.new n1
    generalize upd H L1 (.lst [.int 0]) = H1 at *
    clear n1 P0 
    repeat cell_call
    intro L2 n2
    have e2 := P1.ne n2
    have h1x := hp_ne (o' := .lst [.int 0, .int 1, .int 1]) (ne_of_none h1 n2) h1
    have h2 : (upd H1 L2 (.lst [.int 0, .int 1, .int 1])) L2 = some (.lst ([0, 1, 1].map V.int)) := upd_same
    have P2 := P1.new (o := .lst [.int 0, .int 1, .int 1]) n2
    have sm2 : Same H (upd H1 L2 (.lst [.int 0, .int 1, .int 1])) := same_trN n2 sm1
    generalize upd H1 L2 (.lst [.int 0, .int 1, .int 1]) = H2 at *
    clear n2 P1 h1
    repeat cell_call
    intro L3 n3
    have e3 := P2.ne n3
    have h1xx := hp_ne (o' := .lst [.int 2, .int 2, .int 3, .int 4]) (ne_of_none h1x n3) h1x
    have h2x := hp_ne (o' := .lst [.int 2, .int 2, .int 3, .int 4]) (ne_of_none h2 n3) h2
    have h3 : (upd H2 L3 (.lst [.int 2, .int 2, .int 3, .int 4])) L3 = some (.lst ([2, 2, 3, 4].map V.int)) := upd_same
    have P3 := P2.new (o := .lst [.int 2, .int 2, .int 3, .int 4]) n3
    have sm3 : Same H (upd H2 L3 (.lst [.int 2, .int 2, .int 3, .int 4])) := same_trN n3 sm2
    generalize upd H2 L3 (.lst [.int 2, .int 2, .int 3, .int 4]) = H3 at *
    clear n3 P2 h1x h2
    repeat cell_call
    intro L4 n4
    have e4 := P3.ne n4
    have h1xxx := hp_ne (o' := .lst [.int 0, .int 1, .int 2, .int 3, .int 4, .int 5]) (ne_of_none h1xx n4) h1xx
    have h2xx := hp_ne (o' := .lst [.int 0, .int 1, .int 2, .int 3, .int 4, .int 5]) (ne_of_none h2x n4) h2x
    have h3x := hp_ne (o' := .lst [.int 0, .int 1, .int 2, .int 3, .int 4, .int 5]) (ne_of_none h3 n4) h3
    have h4 : (upd H3 L4 (.lst [.int 0, .int 1, .int 2, .int 3, .int 4, .int 5])) L4 = some (.lst ([0, 1, 2, 3, 4, 5].map V.int)) := upd_same
    have P4 := P3.new (o := .lst [.int 0, .int 1, .int 2, .int 3, .int 4, .int 5]) n4
    have sm4 : Same H (upd H3 L4 (.lst [.int 0, .int 1, .int 2, .int 3, .int 4, .int 5])) := same_trN n4 sm3
    generalize upd H3 L4 (.lst [.int 0, .int 1, .int 2, .int 3, .int 4, .int 5]) = H4 at *
    clear n4 P3 h1xx h2x h3
    repeat cell_call
    intro L5 n5
    have e5 := P4.ne n5
    have h1xxxx := hp_ne (o' := .lst [.int 5, .int 4, .int 0]) (ne_of_none h1xxx n5) h1xxx
    have h2xxx := hp_ne (o' := .lst [.int 5, .int 4, .int 0]) (ne_of_none h2xx n5) h2xx
    have h3xx := hp_ne (o' := .lst [.int 5, .int 4, .int 0]) (ne_of_none h3x n5) h3x
    have h4x := hp_ne (o' := .lst [.int 5, .int 4, .int 0]) (ne_of_none h4 n5) h4
    have h5 : (upd H4 L5 (.lst [.int 5, .int 4, .int 0])) L5 = some (.lst ([5, 4, 0].map V.int)) := upd_same
    have P5 := P4.new (o := .lst [.int 5, .int 4, .int 0]) n5
    have sm5 : Same H (upd H4 L5 (.lst [.int 5, .int 4, .int 0])) := same_trN n5 sm4
    generalize upd H4 L5 (.lst [.int 5, .int 4, .int 0]) = H5 at *
    clear n5 P4 h1xxx h2xx h3x h4
    repeat cell_call
    intro L6 n6
    have e6 := P5.ne n6
    have h1xxxxy := hp_ne (o' := .lst [.ref L1, .ref L2, .ref L3, .ref L4, .ref L5]) (ne_of_none h1xxxx n6) h1xxxx
    have h2xxxy := hp_ne (o' := .lst [.ref L1, .ref L2, .ref L3, .ref L4, .ref L5]) (ne_of_none h2xxx n6) h2xxx
    have h3xxy := hp_ne (o' := .lst [.ref L1, .ref L2, .ref L3, .ref L4, .ref L5]) (ne_of_none h3xx n6) h3xx
    have h4xy := hp_ne (o' := .lst [.ref L1, .ref L2, .ref L3, .ref L4, .ref L5]) (ne_of_none h4x n6) h4x
    have h5y := hp_ne (o' := .lst [.ref L1, .ref L2, .ref L3, .ref L4, .ref L5]) (ne_of_none h5 n6) h5
    have h6 : (upd H5 L6 (.lst [.ref L1, .ref L2, .ref L3, .ref L4, .ref L5])) L6 = some (.lst [.ref L1, .ref L2, .ref L3, .ref L4, .ref L5]) := upd_same
    have P6 := P5.new (o := .lst [.ref L1, .ref L2, .ref L3, .ref L4, .ref L5]) n6
    have sm6 : Same H (upd H5 L6 (.lst [.ref L1, .ref L2, .ref L3, .ref L4, .ref L5])) := same_trN n6 sm5
    generalize upd H5 L6 (.lst [.ref L1, .ref L2, .ref L3, .ref L4, .ref L5]) = H6 at *
    clear n6 P5 sm1 sm2 sm3 sm4 sm5 h1xxxx h2xxx h3xx h4x h5
    repeat cell_call
    refine ⟨S, _, _, rfl, P6, by omega, by decide, by decide, fun r H7 a7 b7 P7 F7 => ?_⟩
    have g6 := F7 _ _ e6 h6
    have key : ∃ (a : Addr) (ks : List Int), atI ([.ref L1, .ref L2, .ref L3, .ref L4, .ref L5] : List V) r = some (.ref a) ∧ H7 a = some (.lst (ks.map V.int)) ∧ 1 ≤ ks.length ∧ ks.length ≤ 6 ∧ (∀ k ∈ ks, 0 ≤ k ∧ k ≤ 5) ∧ a ≠ S := by
      have h : r = 0 ∨ r = 1 ∨ r = 2 ∨ r = 3 ∨ r = 4 := by omega
      rcases h with rfl | rfl | rfl | rfl | rfl
      · exact ⟨L1, [0], rfl, F7 _ _ e1 h1xxxxy, by decide, by decide, by decide, e1⟩
      · exact ⟨L2, [0, 1, 1], rfl, F7 _ _ e2 h2xxxy, by decide, by decide, by decide, e2⟩
      · exact ⟨L3, [2, 2, 3, 4], rfl, F7 _ _ e3 h3xxy, by decide, by decide, by decide, e3⟩
      · exact ⟨L4, [0, 1, 2, 3, 4, 5], rfl, F7 _ _ e4 h4xy, by decide, by decide, by decide, e4⟩
      · exact ⟨L5, [5, 4, 0], rfl, F7 _ _ e5 h5y, by decide, by decide, by decide, e5⟩
    obtain ⟨a, ks, at_, ha, k0, k1, kb, ea⟩ := key
    have F8 : Frm S H H7 := (Same.frm sm6).trans F7
    clear F7 P6 sm6 h6 h1xxxxy h2xxxy h3xxy h4xy h5y e1 e2 e3 e4 e5 e6
    repeat cell_call
    refine ⟨S, _, _, rfl, P7, by omega, by omega, by omega, fun n H8 n0 n1 P8 F9 => ?_⟩
    have ha8 := F9 _ _ ea ha
    have FA := F8.trans F9
    clear F9 F8 P7 ha g6
    repeat cell_call
    refine ⟨by omega, by omega, fun C nC => ?_⟩
    have eC := P8.ne nC
    have eaC := ne_of_none ha8 nC
    have nC0 : H C = none := FA.free eC nC
    refine lc_range (lo := 0) (n := n.toNat) (fun i H' => RngAt H' S (c + 2 + 3 * i) ∧ Frm S H H' ∧ H' a = some (.lst (ks.map V.int)) ∧ ∃ ns : List Int, H' C = some (.lst (ns.map V.int)) ∧ ns.length = i ∧ ∀ k ∈ ns, -1000000000000000000000000000000000 ≤ k ∧ k ≤ 1000000000000000000000000000000000)
      ⟨(P8.new nC).mono (by omega), FA.trans (Same.frm (Same.new nC)), hp_ne eaC ha8, [], upd_same, rfl, by simp⟩ (fun i H2 hi e => ?_) (fun H2 e => ?_)
    · clear P8 FA nC ha8
      obtain ⟨P2, F2, ha, ns, hC, ln, bn⟩ := e
      repeat cell_call
      rw [List.length_map]
      refine ⟨S, _, _, rfl, P2, by omega, by omega, by omega, fun r1 H3 r0 r1' P3 F3 => ?_⟩
      have ha3 := F3 _ _ ea ha
      have hC3 := F3 _ _ eC hC
      have F4 := F2.trans F3
      clear F3 F2 P2 ha hC
      refine st_ixP (SqL.of ha3) (isI_map ks) r0 (by omega) fun kd hkd => ?_
      have kb2 := kb kd (List.mem_of_getElem? hkd)
      repeat cell_call
      refine ⟨S, _, _, rfl, P3, by omega, by omega, by omega, fun v H5 v0 v1 P5 F5 => ?_⟩
      have ha5 := F5 _ _ ea ha3
      have hC5 := F5 _ _ eC hC3
      refine ⟨_, hC5, len_lt (by rw [List.length_map]; omega), (P5.off eC).mono (by omega), Frm.trM nC0 (F4.trans F5), hp_ne eaC ha5, ns ++ [v], ?_, by rw [List.length_append, ln]; rfl, fun k hk => ?_⟩
      · rw [upd_same, List.map_append]
        rfl
      · rcases List.mem_append.mp hk with hk | hk
        · exact bn k hk
        · rw [List.mem_singleton] at hk
          omega
    · clear P8 FA nC ha8
      obtain ⟨P2, F2, ha, ns, hC, ln, bn⟩ := e
      exact q C ns _ nC0 (P2.mono (by omega)) F2 hC (by omega) bn

end
end Mc
namespace Mc
open PySem PySem.Spec PyProof.Rows L2
local macro_rules | `(tactic| lcg_src) => `(tactic| first
  | with_reducible assumption
  | ((with_reducible apply Ne.symm); with_reducible assumption)
  | ((with_reducible apply ne_nf); (with_reducible assumption); lcg_off)
  | ((with_reducible apply Ne.symm); (with_reducible apply ne_nf); (with_reducible assumption); lcg_off))
local macro_rules | `(tactic| lcg_off) => `(tactic| first
  | with_reducible assumption
  | (with_reducible exact upd_same)
  | ((with_reducible apply hp_ne); lcg_src; lcg_off)
  | ((with_reducible apply hp_same); (with_reducible assumption); lcg_off)
  | ((with_reducible apply hp_frm); (with_reducible assumption); lcg_src; lcg_off)
  | ((with_reducible apply hp_frm2); (with_reducible assumption); lcg_src; lcg_src; lcg_off)
  | assumption)
local macro_rules | `(tactic| kpt_turns) => `(tactic| first
  | with_reducible assumption
  | ((with_reducible apply SqL.of); lcg_off)
  | ((with_reducible apply SqT.of); lcg_off)
  | ((with_reducible apply Frm.seq); (with_reducible assumption); lcg_src; kpt_turns)
  | ((with_reducible apply Frm.tup); (with_reducible assumption); lcg_src; kpt_turns)
  | ((with_reducible apply Frm2.seq); (with_reducible assumption); lcg_src; lcg_src; kpt_turns)
  | ((with_reducible apply Frm2.tup); (with_reducible assumption); lcg_src; lcg_src; kpt_turns)
  | ((with_reducible apply L2.Same.seq); (with_reducible assumption); kpt_turns)
  | ((with_reducible apply Same.tup); (with_reducible assumption); kpt_turns)
  | assumption)
local macro_rules | `(tactic| k_memK) => `(tactic| first
  | with_reducible exact Frm.refl _
  | with_reducible assumption
  | ((with_reducible apply Frm.trN); (with_reducible assumption); k_memK)
  | ((with_reducible apply Frm.trU); k_memK)
  | ((with_reducible apply Frm.trM); (with_reducible assumption); k_memK)
  | ((with_reducible apply Frm.tr); (with_reducible assumption); k_memK)
  | ((with_reducible apply Frm.trS); (with_reducible assumption); k_memK)
  | with_reducible exact Frm2.refl _
  | ((with_reducible apply Frm2.trN); (with_reducible assumption); k_memK)
  | ((with_reducible apply Frm2.trU); k_memK)
  | ((with_reducible apply Frm2.trV); k_memK)
  | ((with_reducible apply Frm2.trM); (with_reducible assumption); k_memK)
  | ((with_reducible apply Frm2.tr); (with_reducible assumption); k_memK)
  | ((with_reducible apply Frm2.trS); (with_reducible assumption); k_memK))
local macro_rules | `(tactic| k_allIn) => `(tactic| first
  | with_reducible exact L2.Same.refl _
  | with_reducible assumption
  | ((with_reducible apply same_trN); (with_reducible assumption); k_allIn)
  | ((with_reducible apply same_trU); (with_reducible assumption); k_allIn)
  | ((with_reducible apply same_tr); (with_reducible assumption); k_allIn))
local macro_rules | `(tactic| k_ownIn) => `(tactic| first
  | with_reducible refine st_seq ?_
  | ((with_reducible refine' st_setF ?e ?_); (case e => intro x; (simp only [List.set_cons_zero, List.set_cons_succ]; exact rfl)))
  | with_reducible refine st_c ?_
  | ((with_reducible refine' st_var ?h ?_); (case h => exact rfl))
  | with_reducible refine st_op ?_
  | with_reducible refine st_I0 ?_
  | ((with_reducible refine' st_powL ?c ?e ?_); (case c => exact ⟨by decide, by decide, by decide⟩); (case e => (simp only [Int.reduceToNat, Int.reducePow]; exact rfl)))
  | ((with_reducible refine st_I ?h ?_); (case h => first | with_reducible assumption | (show (0 : Int) < _; omega) | exact ⟨by omega, by omega⟩ | exact .inl ⟨by omega, by omega⟩ | exact .inr ⟨by omega, by omega⟩ | exact ⟨by omega, by omega, by omega⟩))
  | with_reducible refine st_nil ?_
  | with_reducible refine st_cons ?_
  | with_reducible refine st_ret ?_
  | with_reducible refine st_call ?_
  | with_reducible refine st_cb ?_
  | with_reducible refine st_exb ?_
  | ((with_reducible refine' st_ixL ?h1 ?h2 ?_); (case h1 => kpt_turns); (case h2 => first | ((with_reducible apply at0); exact rfl) | ((with_reducible apply at1); exact rfl) | ((with_reducible apply at2); exact rfl) | ((with_reducible apply at3); exact rfl) | with_reducible assumption))
  | ((with_reducible refine' st_ixT ?h1 ?h2 ?_); (case h1 => kpt_turns); (case h2 => first | ((with_reducible apply at0); exact rfl) | ((with_reducible apply at1); exact rfl) | ((with_reducible apply at2); exact rfl) | with_reducible assumption))
  | ((with_reducible refine' st_ixP ?h1 ?h2 ?h3 ?h4 ?_); (case h1 => kpt_turns); (case h2 => (repeat constructor)); (case h3 => omega); (case h4 => (simp; omega)))
  | ((with_reducible refine' st_ixPT ?h1 ?h2 ?h3 ?h4 ?_); (case h1 => kpt_turns); (case h2 => (repeat constructor)); (case h3 => omega); (case h4 => (simp; omega)))
  | with_reducible refine st_tB ?_
  | with_reducible refine st_test ?_
  | with_reducible refine st_and ?_
  | with_reducible refine st_or ?_
  | with_reducible refine st_not ?_
  | with_reducible refine st_andV ?_
  | with_reducible refine st_orV ?_
  | with_reducible refine st_notV ?_
  | with_reducible refine st_chain ?_
  | with_reducible refine st_iT ?_
  | with_reducible refine st_iF ?_
  | with_reducible refine st_iNT ?_
  | with_reducible refine st_iNF ?_
  | with_reducible refine st_iRf ?_
  | with_reducible refine st_iNRf ?_
  | with_reducible refine st_asg ?_
  | ((with_reducible refine' st_parF ?e ?_); (case e => intro x y; (simp only [List.set_cons_zero, List.set_cons_succ]; exact rfl)))
  | with_reducible refine st_par2 ?_
  | with_reducible refine st_fst ?_
  | with_reducible refine st_jsE ?_
  | with_reducible refine st_js ?_
  | with_reducible refine st_fmt ?_
  | with_reducible refine st_joinK ?_
  | with_reducible refine st_strx ?_
  | ((with_reducible refine' st_par3F ?e ?_); (case e => intro x y z; (simp only [List.set_cons_zero, List.set_cons_succ]; exact rfl)))
  | with_reducible refine st_par3 ?_
  | ((with_reducible refine' st_augF ?h ?e ?_); (case h => exact rfl); (case e => intro x; (simp only [List.set_cons_zero, List.set_cons_succ]; exact rfl)))
  | with_reducible refine st_ipI ?_
  | with_reducible refine st_drop ?_
  | with_reducible refine st_next ?_
  | with_reducible refine st_un ?_
  | with_reducible refine st_U ?_
  | ((with_reducible refine' st_gNF ?e ?_); (case e => (simp only [List.set_cons_zero, List.set_cons_succ]; exact rfl)))
  | with_reducible refine st_gN ?_
  | ((with_reducible refine' st_gT ?h1 ?h2 ?_); (case h1 => kpt_turns); (case h2 => exact rfl))
  | with_reducible refine st_gC ?_
  | with_reducible refine st_gE ?_
  | with_reducible refine st_gS ?_
  | ((with_reducible refine' st_setL ?h1 ?h2 ?_); (case h1 => lcg_off); (case h2 => exact rfl))
  | with_reducible refine st_lst ?_
  | with_reducible refine st_tup ?_
  | ((with_reducible refine st_new ?h ?_); (case h => (simp; done)))
  | with_reducible refine st_callN ?_
  | with_reducible refine st_bm ?_
  | with_reducible refine st_bm0 ?_
  | ((with_reducible refine' st_tyL ?h ?_); (case h => kpt_turns))
  | ((with_reducible refine st_eq ?h ?_); (case h => exact rfl))
  | ((with_reducible refine st_ne ?h ?_); (case h => exact rfl))
  | with_reducible refine st_i1 ?_
  | with_reducible refine st_i2 ?_
  | with_reducible refine st_int ?_
  | with_reducible refine st_intb ?_
  | ((with_reducible refine' st_lenQ ?h ?_); (case h => kpt_turns))
  | ((with_reducible refine' st_lenQT ?h ?_); (case h => kpt_turns))
  | with_reducible refine st_yes ?_
  | with_reducible refine st_brk ?_
  | with_reducible refine st_cont ?_
  | with_reducible refine st_retN ?_
  | with_reducible refine st_forI ?_
  | with_reducible refine st_lcI ?_
  | with_reducible refine st_itL ?_
  | with_reducible refine st_itT ?_
  | with_reducible refine st_rng1 ?_
  | with_reducible refine st_rng2 ?_
  | with_reducible refine st_ref ?_
  | with_reducible refine st_sl ?_
  | with_reducible refine st_pN ?_
  | with_reducible refine st_pS ?_
  | with_reducible refine st_pI ?_
  | (refine ⟨rfl, ?_⟩))
local macro_rules | `(tactic| cell_call) => `(tactic| first
  | with_reducible refine st_seq ?_
  | ((with_reducible refine' st_setF ?e ?_); (case e => intro x; (simp only [List.set_cons_zero, List.set_cons_succ]; exact rfl)))
  | with_reducible refine st_c ?_
  | ((with_reducible refine' st_var ?h ?_); (case h => exact rfl))
  | with_reducible refine st_op ?_
  | with_reducible refine st_I0 ?_
  | ((with_reducible refine' st_powL ?c ?e ?_); (case c => exact ⟨by decide, by decide, by decide⟩); (case e => (simp only [Int.reduceToNat, Int.reducePow]; exact rfl)))
  | ((with_reducible refine st_I ?h ?_); (case h => first | with_reducible assumption | (show (0 : Int) < _; omega) | exact ⟨by omega, by omega⟩ | exact .inl ⟨by omega, by omega⟩ | exact .inr ⟨by omega, by omega⟩ | exact ⟨by omega, by omega, by omega⟩))
  | with_reducible refine st_nil ?_
  | with_reducible refine st_cons ?_
  | with_reducible refine st_ret ?_
  | with_reducible refine st_call ?_
  | with_reducible refine st_cb ?_
  | with_reducible refine st_exb ?_
  | ((with_reducible refine' st_ixL ?h1 ?h2 ?_); (case h1 => kpt_turns); (case h2 => first | ((with_reducible apply at0); exact rfl) | ((with_reducible apply at1); exact rfl) | ((with_reducible apply at2); exact rfl) | ((with_reducible apply at3); exact rfl) | with_reducible assumption))
  | ((with_reducible refine' st_ixT ?h1 ?h2 ?_); (case h1 => kpt_turns); (case h2 => first | ((with_reducible apply at0); exact rfl) | ((with_reducible apply at1); exact rfl) | ((with_reducible apply at2); exact rfl) | with_reducible assumption))
  | ((with_reducible refine' st_ixP ?h1 ?h2 ?h3 ?h4 ?_); (case h1 => kpt_turns); (case h2 => (repeat constructor)); (case h3 => omega); (case h4 => (simp; omega)))
  | ((with_reducible refine' st_ixPT ?h1 ?h2 ?h3 ?h4 ?_); (case h1 => kpt_turns); (case h2 => (repeat constructor)); (case h3 => omega); (case h4 => (simp; omega)))
  | with_reducible refine st_tB ?_
  | with_reducible refine st_test ?_
  | with_reducible refine st_and ?_
  | with_reducible refine st_or ?_
  | with_reducible refine st_not ?_
  | with_reducible refine st_andV ?_
  | with_reducible refine st_orV ?_
  | with_reducible refine st_notV ?_
  | with_reducible refine st_chain ?_
  | with_reducible refine st_iT ?_
  | with_reducible refine st_iF ?_
  | with_reducible refine st_iNT ?_
  | with_reducible refine st_iNF ?_
  | with_reducible refine st_iRf ?_
  | with_reducible refine st_iNRf ?_
  | with_reducible refine st_asg ?_
  | ((with_reducible refine' st_parF ?e ?_); (case e => intro x y; (simp only [List.set_cons_zero, List.set_cons_succ]; exact rfl)))
  | with_reducible refine st_par2 ?_
  | with_reducible refine st_fst ?_
  | with_reducible refine st_jsE ?_
  | with_reducible refine st_js ?_
  | with_reducible refine st_fmt ?_
  | with_reducible refine st_joinK ?_
  | with_reducible refine st_strx ?_
  | ((with_reducible refine' st_par3F ?e ?_); (case e => intro x y z; (simp only [List.set_cons_zero, List.set_cons_succ]; exact rfl)))
  | with_reducible refine st_par3 ?_
  | ((with_reducible refine' st_augF ?h ?e ?_); (case h => exact rfl); (case e => intro x; (simp only [List.set_cons_zero, List.set_cons_succ]; exact rfl)))
  | with_reducible refine st_ipI ?_
  | with_reducible refine st_drop ?_
  | with_reducible refine st_next ?_
  | with_reducible refine st_un ?_
  | with_reducible refine st_U ?_
  | ((with_reducible refine' st_gNF ?e ?_); (case e => (simp only [List.set_cons_zero, List.set_cons_succ]; exact rfl)))
  | with_reducible refine st_gN ?_
  | ((with_reducible refine' st_gT ?h1 ?h2 ?_); (case h1 => kpt_turns); (case h2 => exact rfl))
  | with_reducible refine st_gC ?_
  | with_reducible refine st_gE ?_
  | with_reducible refine st_gS ?_
  | ((with_reducible refine' st_setL ?h1 ?h2 ?_); (case h1 => lcg_off); (case h2 => exact rfl))
  | with_reducible refine st_lst ?_
  | with_reducible refine st_tup ?_
  | ((with_reducible refine st_new ?h ?_); (case h => (simp; done)))
  | with_reducible refine st_callN ?_
  | with_reducible refine st_bm ?_
  | with_reducible refine st_bm0 ?_
  | ((with_reducible refine' st_tyL ?h ?_); (case h => kpt_turns))
  | ((with_reducible refine st_eq ?h ?_); (case h => exact rfl))
  | ((with_reducible refine st_ne ?h ?_); (case h => exact rfl))
  | with_reducible refine st_i1 ?_
  | with_reducible refine st_i2 ?_
  | with_reducible refine st_int ?_
  | with_reducible refine st_intb ?_
  | ((with_reducible refine' st_lenQ ?h ?_); (case h => kpt_turns))
  | ((with_reducible refine' st_lenQT ?h ?_); (case h => kpt_turns))
  | with_reducible refine st_yes ?_
  | with_reducible refine st_brk ?_
  | with_reducible refine st_cont ?_
  | with_reducible refine st_retN ?_
  | with_reducible refine st_forI ?_
  | with_reducible refine st_lcI ?_
  | with_reducible refine st_itL ?_
  | with_reducible refine st_itT ?_
  | with_reducible refine st_rng1 ?_
  | with_reducible refine st_rng2 ?_
  | with_reducible refine st_ref ?_
  | with_reducible refine st_sl ?_
  | with_reducible refine st_pN ?_
  | with_reducible refine st_pS ?_
  | with_reducible refine st_pI ?_
  | (refine ⟨rfl, ?_⟩)
  | with_reducible refine st_ifE ?_
  | with_reducible refine st_ifS ?_)
local macro_rules | `(tactic| kpf_close) => `(tactic| first
  | cell_call
  | refine st_iD (fun _ => ?_) (fun _ => ?_)
  | refine st_iND (fun _ => ?_) (fun _ => ?_)
  | refine st_iNB (fun _ => ?_) (fun _ => ?_)
  | refine st_iB (fun _ => ?_) (fun _ => ?_))
local macro_rules | `(tactic| k_places) => `(tactic| first
  | with_reducible refine isi_non_bool ?_
  | with_reducible refine isi_non_int ?_
  | with_reducible refine isi_non_str ?_
  | with_reducible refine isi_non_list ?_
  | with_reducible refine isi_non_tuple ?_
  | with_reducible refine isi_bl_bool ?_
  | with_reducible refine isi_bl_int ?_
  | with_reducible refine isi_bl_str ?_
  | with_reducible refine isi_bl_list ?_
  | with_reducible refine isi_bl_tuple ?_
  | with_reducible refine isi_int_bool ?_
  | with_reducible refine isi_int_int ?_
  | with_reducible refine isi_int_str ?_
  | with_reducible refine isi_int_list ?_
  | with_reducible refine isi_int_tuple ?_
  | with_reducible refine isi_str_bool ?_
  | with_reducible refine isi_str_int ?_
  | with_reducible refine isi_str_str ?_
  | with_reducible refine isi_str_list ?_
  | with_reducible refine isi_str_tuple ?_
  | ((with_reducible refine' isi_list_bool ?h ?_); (case h => kpt_turns))
  | ((with_reducible refine' isi_list_int ?h ?_); (case h => kpt_turns))
  | ((with_reducible refine' isi_list_str ?h ?_); (case h => kpt_turns))
  | ((with_reducible refine' isi_list_list ?h ?_); (case h => kpt_turns))
  | ((with_reducible refine' isi_list_tuple ?h ?_); (case h => kpt_turns))
  | ((with_reducible refine' isi_tuple_bool ?h ?_); (case h => kpt_turns))
  | ((with_reducible refine' isi_tuple_int ?h ?_); (case h => kpt_turns))
  | ((with_reducible refine' isi_tuple_str ?h ?_); (case h => kpt_turns))
  | ((with_reducible refine' isi_tuple_list ?h ?_); (case h => kpt_turns))
  | ((with_reducible refine' isi_tuple_tuple ?h ?_); (case h => kpt_turns)))
local macro_rules | `(tactic| cell_call) => `(tactic| first
  | with_reducible refine st_zip ?_)
local macro_rules | `(tactic| k_ownIn) => `(tactic| first
  | with_reducible refine st_zip ?_)
local macro_rules | `(tactic| cell_call) => `(tactic| first
  | with_reducible refine st_disp ?_
  | with_reducible refine st_pr ?_
  | with_reducible refine st_prE ?_
  | with_reducible refine st_dget ?_
  | with_reducible refine st_dput ?_
  | with_reducible refine st_daug ?_
  | ((with_reducible refine' st_bgG ?h ?_); (case h => lcg_off))
  | ((with_reducible refine' st_bgL ?h ?_); (case h => lcg_off))
  | ((with_reducible refine' st_bgT ?h ?_); (case h => lcg_off))
  | ((with_reducible refine' st_bgF ?h ?_); (case h => lcg_off))
  | ((with_reducible refine' st_bpL ?h ?_); (case h => lcg_off)))
local macro_rules | `(tactic| k_ownIn) => `(tactic| first
  | with_reducible refine st_disp ?_
  | with_reducible refine st_pr ?_
  | with_reducible refine st_prE ?_
  | with_reducible refine st_dget ?_
  | with_reducible refine st_dput ?_
  | with_reducible refine st_daug ?_
  | ((with_reducible refine' st_bgG ?h ?_); (case h => lcg_off))
  | ((with_reducible refine' st_bgL ?h ?_); (case h => lcg_off))
  | ((with_reducible refine' st_bgT ?h ?_); (case h => lcg_off))
  | ((with_reducible refine' st_bgF ?h ?_); (case h => lcg_off))
  | ((with_reducible refine' st_bpL ?h ?_); (case h => lcg_off)))
local macro_rules | `(tactic| cell_call) => `(tactic| first
  | with_reducible refine st_veI ?_
  | with_reducible refine st_ost ?_
  | with_reducible refine st_mko ?_
  | with_reducible refine st_xv ?_
  | with_reducible refine st_lrg ?_
  | with_reducible refine st_callS ?_
  | with_reducible refine st_rg2 ?_
  | with_reducible refine st_rgE ?_)
local macro_rules | `(tactic| k_ownIn) => `(tactic| first
  | with_reducible refine st_veI ?_
  | with_reducible refine st_ost ?_
  | with_reducible refine st_mko ?_
  | with_reducible refine st_xv ?_
  | with_reducible refine st_lrg ?_
  | with_reducible refine st_callS ?_
  | with_reducible refine st_rg2 ?_
  | with_reducible refine st_rgE ?_)
local macro_rules | `(tactic| cell_call) => `(tactic| first
  | with_reducible refine st_inC ?_
  | with_reducible refine st_itS ?_
  | with_reducible refine st_itS1 ?_)
local macro_rules | `(tactic| k_ownIn) => `(tactic| first
  | with_reducible refine st_inC ?_
  | with_reducible refine st_itS ?_
  | with_reducible refine st_itS1 ?_)
local macro_rules | `(tactic| cell_call) => `(tactic| first
  | with_reducible refine st_frz ?_
  | with_reducible refine st_itI ?_
  | with_reducible refine st_dg2 ?_
  | with_reducible refine st_dput ?_
  | with_reducible refine st_scI ?_)
local macro_rules | `(tactic| cell_call) => `(tactic| first
  | with_reducible refine st_revI ?_)
local macro_rules | `(tactic| k_ownIn) => `(tactic| first
  | with_reducible refine st_revI ?_)
local macro_rules | `(tactic| cell_call) => `(tactic| first
  | with_reducible refine st_frzA ?_
  | with_reducible refine st_itK ?_)
local macro_rules | `(tactic| k_ownIn) => `(tactic| first
  | with_reducible refine st_frzA ?_
  | with_reducible refine st_itK ?_)
section
variable {P : Program} {w : World} {K : PySem.W.Frag} {mg : Str → Option Value} {base : Heap}
def sp_law_is_leap (K : PySem.W.Frag) : Sp := fun vs H Q _ => ∃ y : Int, vs = [.int y] ∧ Q (.bl (lp y)) H
theorem ok_law_is_leap (T : Txt K mg) : FnOk P w K mg base CX0 1 (He.ga K "_law_is_leap") T.fd_law_is_leap ["year"] (sp_law_is_leap K) := by
  refine T.F_law_is_leap.ok sc_law_is_leap (fun vs H Q E h => ?_) (fun cdv A outer s H vs Q E hr h => ?_)
  · obtain ⟨y, rfl, _⟩ := h
    rfl
  · obtain ⟨y, rfl, q⟩ := h
    refine ⟨_, PSs.nox (pss_one (ps_ret (pe_and (pe_cmpR op_eqI (pe_op op_mod (pv 0) pe_int) pe_int (nomark _)) (pe_one (pe_or (pe_cmpR op_neI (pe_op op_mod (pv 0) pe_int) pe_int (nomark _)) (pe_one (pe_cmpR op_eqI (pe_op op_mod (pv 0) pe_int) pe_int (nomark _)))))))), ?_⟩
    rw [start_law_is_leap]
    unfold lp at q
    repeat cell_call
    refine st_iD (fun h1 => ?_) (fun h1 => ?_)
    · rw [decide_eq_true h1, Bool.true_and] at q
      repeat cell_call
      refine st_iND (fun h2 => ?_) (fun h2 => ?_)
      · rw [decide_eq_false h2] at q
        repeat cell_call
        exact q
      · rw [decide_eq_true h2] at q
        repeat cell_call
        exact q
    · rw [decide_eq_false h1] at q
      repeat cell_call
      exact q

def sp_law_sums (K : PySem.W.Frag) : Sp := fun vs H Q _ => ∃ (L : Addr) (ns : List Int), vs = [.ref L] ∧ SqL K H L (ns.map V.int) ∧ ns.length ≤ 3000 ∧
  ∀ p H', H p = none → Same H H' → H' p = some (.lst ((srt (sms ns)).map V.int)) → Q (.ref p) H'
theorem ok_law_sums (T : Txt K mg) : FnOk P w K mg base CX0 1 (He.ga K "_law_sums") T.fd_law_sums ["moves"] (sp_law_sums K) := by
  refine T.F_law_sums.ok sc_law_sums (fun vs H Q E h => ?_) (fun cdv A outer s H vs Q E hr h => ?_)
  · obtain ⟨L, ns, rfl, _⟩ := h
    rfl
  · obtain ⟨L, ns, rfl, hL, hl, q⟩ := h
    refine ⟨_, PSs.nox (pss_cons (ps_set (i := 1) sc_law_sums.nd rfl (Or.inl rfl) (pe_lst (pa_cons pe_int pa_nil)))
      (pss_cons (ps_for PassesOwn.never rfl (show PI _ _ _ (iList K _) from pi_list (pv 0)) (pg_name (i := 2) sc_law_sums.nd rfl (Or.inl rfl)) (pss_one (ps_expr (show PE _ _ (tBM K _ _ _ _) from pe_bm PySem.F.plainAttrs_list PySem.F.slot_list_append PySem.F.type_list_append mt_append (pv 1) (pa_cons (pe_op op_add (pe_ix (show IxR _ (rIxL K) from ix_list) (pv 1) (pe_un un_neg pe_int) (fun _ _ => rfl)) (pv 2)) pa_nil)))))
      (pss_one (ps_ret (pe_callB (show CallR _ _ (rSortS w) from (cr_sortS rfl)) (by rfl) T.b_sorted (by decide +kernel) (pa_cons (pe_callTy (show CallR _ _ (rSetI K w) from (cr_setI rfl)) (by rfl) T.b_set (by decide +kernel) (pa_cons (pv 1) pa_nil)) pa_nil)))))), ?_⟩
    rw [start_law_sums]
    repeat cell_call
    intro F nF
    have s0 : Same H (upd H F (.lst [.int 0])) := Same.new nF
    repeat cell_call
    refine ⟨⟨_, s0.seq hL⟩, fL (xs := ns.map V.int) (fun i σ' H' => Same H H' ∧ ∃ x, σ' = [some (.ref L), some (.ref F), x] ∧ H' F = some (.lst ((sms (ns.take i)).map V.int)))
      ⟨s0, none, rfl, upd_same⟩ (fun i σ' H' _ e => e.1.seq hL) (fun i x σ' H' hx e => ?_) (fun σ' H' e => ?_)⟩
    · obtain ⟨sm, z, rfl, hF⟩ := e
      obtain ⟨k, hk, rfl⟩ := int_at hx
      repeat cell_call
      refine st_ixN1 (SqL.of hF) (by rw [sms_len]; omega) fun t ht => ?_
      rw [sms_last] at ht
      cases ht
      repeat cell_call
      refine st_app hF (by rw [List.length_map, sms_len, List.length_take]; omega) ?_
      refine ⟨same_trU nF sm, some (.int k), rfl, ?_⟩
      rw [upd_same, sms_take hk, List.map_append]
      rfl
    · obtain ⟨sm, z, rfl, hF⟩ := e
      rw [List.length_map, List.take_length] at hF
      repeat cell_call
      refine st_setI (SqL.of hF) (by rw [sms_len]; omega) fun S c nS => ?_
      repeat cell_call
      refine st_sortS upd_same fun p np => ?_
      exact q p _ (same_free np (same_trN nS sm)) (same_trN np (same_trN nS sm)) upd_same

def sp_law_masks (K : PySem.W.Frag) : Sp := fun vs H Q _ => vs = [] ∧ ∀ p H', H p = none → Same H H' → H' p = some (.lst (msk.map V.int)) → Q (.ref p) H'
theorem bm_one (y : Int) : (((rgN 400).filter fun o => lp (y + o)).map fun o => 1 * 2 ^ o.toNat).sum = bL [y] := by
  show bm (fun o => lp (y + o)) = bm (fun o => [y].all fun z => lp (o + z))
  refine bm_congr fun o _ _ => ?_
  rw [List.all_cons, List.all_nil, Bool.and_true, Int.add_comm]
theorem ok_law_masks (T : Txt K mg) : FnOk P w K mg base CX0 2 (He.ga K "_law_masks") T.fd_law_masks [] (sp_law_masks K) := by
  refine T.F_law_masks.ok sc_law_masks (fun vs H Q E h => ?_) (fun cdv A outer s H vs Q E hr h => ?_)
  · exact h.1 ▸ rfl
  · obtain ⟨rfl, q⟩ := h
    refine ⟨_, PSs.nox (pss_cons (ps_set (i := 0) sc_law_masks.nd rfl (Or.inl rfl) (pe_lst pa_nil))
      (pss_cons (ps_for PassesOwn.never rfl (pi_range1 (by rfl) T.b_range (pa_cons pe_int pa_nil)) (pg_name (i := 1) sc_law_masks.nd rfl (Or.inr rfl)) (pss_one (ps_expr (show PE _ _ (tBM K _ _ _ _) from pe_bm PySem.F.plainAttrs_list PySem.F.slot_list_append PySem.F.type_list_append mt_append (pv 0) (pa_cons (pe_callB (show CallR _ _ (rSum K) from (cr_sum rfl)) (by rfl) T.b_sum (by decide +kernel) (pa_cons (pe_lc (own := [("other", 2)]) (g := gName 2) rfl sc_law_masks.nd (pi_range1 (by rfl) T.b_range (pa_cons pe_int pa_nil)) (blkOk_by (N := N_law_masks) (sc := defScope s_law_masks) (by decide +kernel)) (fun _ _ _ _ _ => (pg_name (i := 2) sc_law_masks.nd rfl (Or.inl rfl))) (fun _ _ _ _ _ => (pts_one (pt_val (pe_call (ok_law_is_leap T) (hr.mono (by decide)) rfl T.g_law_is_leap T.F_law_is_leap.kp (b_law_is_leap T) .nil pass0 (pa_cons (pe_op op_add (pv 1) (pv 2)) pa_nil))))) (fun _ _ _ _ _ => (pe_op op_shlW pe_int (pv 2)))) pa_nil)) pa_nil)))))
      (pss_one (ps_ret (pv 0))))), ?_⟩
    rw [start_law_masks]
    repeat cell_call
    intro F nF
    have s0 : Same H (upd H F (.lst [])) := Same.new nF
    repeat cell_call
    refine ⟨by omega, by omega, fR (fun i σ' H' => Same H H' ∧ H' F = some (.lst (((rgN i).map fun y => bL [y]).map V.int)) ∧ ∃ a b, σ' = [some (.ref F), a, b]) ⟨s0, upd_same, none, none, rfl⟩ (fun i σ1 H1 hi e => ?_) (fun σ1 H1 e => ?_)⟩
    · obtain ⟨sm, hF, a, b, rfl⟩ := e
      have hi2 : i < 400 := hi
      clear s0
      rw [Int.zero_add]
      repeat cell_call
      refine ⟨by omega, by omega, fun C nC => ?_⟩
      refine lcRM (n := ((400 : Int) - 0).toNat) (fun o => lp ((i : Int) + o)) (fun o => 1 * 2 ^ o.toNat) nC (by decide) (fun k H' R RF k0 k1 sm2 hy hn => ?_) (fun H5 sm5 hC => ?_)
      · repeat cell_call
        refine ⟨_, rfl, ?_⟩
        repeat cell_call
        refine st_iB (fun h1 => ?_) (fun h1 => ?_)
        · have sh := shl_ok (i := 1) (j := k.toNat) (n := 1) (by decide) (by omega)
          rw [Int.toNat_of_nonneg k0] at sh
          repeat cell_call
          exact hy h1 _ (Same.refl _)
        · exact hn h1 _ (Same.refl _)
      have hF5 := sm5 _ _ hF
      have smA := same_tr sm5 sm
      repeat cell_call
      refine ⟨C, _, rfl, SqL.of hC, ?_⟩
      rw [show (((rgN ((400 : Int) - 0).toNat).filter fun o => lp ((i : Int) + o)).map fun o => 1 * 2 ^ o.toNat).sum = bL [(i : Int)] from bm_one i]
      have rl : (rgN i).length = i := by unfold rgN; rw [List.length_map, List.length_range]
      repeat cell_call
      refine st_app hF5 (by rw [List.length_map, List.length_map]; omega) ?_
      refine ⟨same_trU nF smA, ?_, _, _, rfl⟩
      have z : rgN (i + 1) = rgN i ++ [(i : Int)] := by
        unfold rgN
        rw [List.range_succ, List.map_append]
        rfl
      rw [upd_same, z, List.map_append, List.map_append]
      rfl
    · obtain ⟨sm, hF, a, b, rfl⟩ := e
      repeat cell_call
      exact q F _ nF sm hF

def sp_law_joined (K : PySem.W.Frag) : Sp := fun vs H Q _ => ∃ (A L : Addr) (ys : List Int), vs = [.ref A, .ref L] ∧ SqL K H A (msk.map V.int) ∧ SqL K H L (ys.map V.int) ∧ Q (.int (bL ys)) H
theorem msk_len : msk.length = 400 := by
  unfold msk rgN
  rw [List.length_map, List.length_map, List.length_range]
theorem msk_at {y m : Int} (h : msk[(y % 400).toNat]? = some m) : m = bL [y] := by
  unfold msk rgN at h
  rw [List.getElem?_map, List.getElem?_map, List.getElem?_range (by omega)] at h
  rw [← Option.some.inj h, ← bL_mod y]
  show bL [((y % 400).toNat : Int)] = bL [y % 400]
  rw [Int.toNat_of_nonneg (by omega)]
theorem ok_law_joined (T : Txt K mg) : FnOk P w K mg base CX0 1 (He.ga K "_law_joined") T.fd_law_joined ["masks", "years"] (sp_law_joined K) := by
  refine T.F_law_joined.ok sc_law_joined (fun vs H Q E h => ?_) (fun cdv A outer s H vs Q E hr h => ?_)
  · obtain ⟨A, L, ys, rfl, _⟩ := h
    rfl
  · obtain ⟨A, L, ys, rfl, hA, hL, q⟩ := h
    refine ⟨_, PSs.nox (pss_cons (ps_set (i := 2) sc_law_joined.nd rfl (Or.inl rfl) (pe_op op_sub (pe_op op_shlW pe_int pe_int) pe_int))
      (pss_cons (ps_for PassesOwn.never rfl (show PI _ _ _ (iList K _) from pi_list (pv 1)) (pg_name (i := 3) sc_law_joined.nd rfl (Or.inl rfl)) (pss_one (ps_set (i := 2) sc_law_joined.nd rfl (Or.inl rfl) (pe_op op_and (pv 2) (pe_ix (show IxR _ (rIxL K) from ix_list) (pv 0) (pe_op op_mod (pv 3) pe_int) (fun _ _ => rfl))))))
      (pss_one (ps_ret (pv 2))))), ?_⟩
    rw [start_law_joined]
    have ml := msk_len
    have ma := @msk_at
    generalize msk = mk at *
    repeat cell_call
    refine st_I (shl_ok (i := 1) (j := 400) (n := 1) (by decide) (by decide)) ?_
    repeat cell_call
    rw [show (1 : Int) * 2 ^ (400 : Int).toNat - 1 = bL [] from bm_full]
    refine ⟨⟨_, hL⟩, fL (xs := ys.map V.int) (fun i σ' H' => H' = H ∧ ∃ x, σ' = [some (.ref A), some (.ref L), some (.int (bL (ys.take i))), x]) ⟨rfl, none, rfl⟩ (fun i σ' H' _ e => by rw [e.1]; exact hL) (fun i x σ' H' hx e => ?_) (fun σ' H' e => ?_)⟩
    · obtain ⟨rfl, z, rfl⟩ := e
      obtain ⟨k, hk, rfl⟩ := int_at hx
      repeat cell_call
      refine st_ixP (hA) (isI_map mk) (show (0 : Int) ≤ k % 400 by omega) (show k % 400 < (mk.length : Int) by rw [ml]; omega) fun m hm => ?_
      rw [ma hm]
      repeat cell_call
      refine ⟨some (.int k), ?_⟩
      rw [List.take_add_one, hk, bL_and]
      rfl
    · obtain ⟨rfl, z, rfl⟩ := e
      rw [List.length_map, List.take_length]
      repeat cell_call
      exact q

end
end Mc
namespace Mc
open PySem PySem.Spec PyProof.Rows L2
local macro_rules | `(tactic| lcg_src) => `(tactic| first
  | with_reducible assumption
  | ((with_reducible apply Ne.symm); with_reducible assumption)
  | ((with_reducible apply ne_nf); (with_reducible assumption); lcg_off)
  | ((with_reducible apply Ne.symm); (with_reducible apply ne_nf); (with_reducible assumption); lcg_off))
local macro_rules | `(tactic| lcg_off) => `(tactic| first
  | with_reducible assumption
  | (with_reducible exact upd_same)
  | ((with_reducible apply hp_ne); lcg_src; lcg_off)
  | ((with_reducible apply hp_same); (with_reducible assumption); lcg_off)
  | ((with_reducible apply hp_frm); (with_reducible assumption); lcg_src; lcg_off)
  | ((with_reducible apply hp_frm2); (with_reducible assumption); lcg_src; lcg_src; lcg_off)
  | assumption)
local macro_rules | `(tactic| kpt_turns) => `(tactic| first
  | with_reducible assumption
  | ((with_reducible apply SqL.of); lcg_off)
  | ((with_reducible apply SqT.of); lcg_off)
  | ((with_reducible apply Frm.seq); (with_reducible assumption); lcg_src; kpt_turns)
  | ((with_reducible apply Frm.tup); (with_reducible assumption); lcg_src; kpt_turns)
  | ((with_reducible apply Frm2.seq); (with_reducible assumption); lcg_src; lcg_src; kpt_turns)
  | ((with_reducible apply Frm2.tup); (with_reducible assumption); lcg_src; lcg_src; kpt_turns)
  | ((with_reducible apply L2.Same.seq); (with_reducible assumption); kpt_turns)
  | ((with_reducible apply Same.tup); (with_reducible assumption); kpt_turns)
  | assumption)
local macro_rules | `(tactic| k_memK) => `(tactic| first
  | with_reducible exact Frm.refl _
  | with_reducible assumption
  | ((with_reducible apply Frm.trN); (with_reducible assumption); k_memK)
  | ((with_reducible apply Frm.trU); k_memK)
  | ((with_reducible apply Frm.trM); (with_reducible assumption); k_memK)
  | ((with_reducible apply Frm.tr); (with_reducible assumption); k_memK)
  | ((with_reducible apply Frm.trS); (with_reducible assumption); k_memK)
  | with_reducible exact Frm2.refl _
  | ((with_reducible apply Frm2.trN); (with_reducible assumption); k_memK)
  | ((with_reducible apply Frm2.trU); k_memK)
  | ((with_reducible apply Frm2.trV); k_memK)
  | ((with_reducible apply Frm2.trM); (with_reducible assumption); k_memK)
  | ((with_reducible apply Frm2.tr); (with_reducible assumption); k_memK)
  | ((with_reducible apply Frm2.trS); (with_reducible assumption); k_memK))
local macro_rules | `(tactic| k_allIn) => `(tactic| first
  | with_reducible exact L2.Same.refl _
  | with_reducible assumption
  | ((with_reducible apply same_trN); (with_reducible assumption); k_allIn)
  | ((with_reducible apply same_trU); (with_reducible assumption); k_allIn)
  | ((with_reducible apply same_tr); (with_reducible assumption); k_allIn))
local macro_rules | `(tactic| k_ownIn) => `(tactic| first
  | with_reducible refine st_seq ?_
  | ((with_reducible refine' st_setF ?e ?_); (case e => intro x; (simp only [List.set_cons_zero, List.set_cons_succ]; exact rfl)))
  | with_reducible refine st_c ?_
  | ((with_reducible refine' st_var ?h ?_); (case h => exact rfl))
  | with_reducible refine st_op ?_
  | with_reducible refine st_I0 ?_
  | ((with_reducible refine' st_powL ?c ?e ?_); (case c => exact ⟨by decide, by decide, by decide⟩); (case e => (simp only [Int.reduceToNat, Int.reducePow]; exact rfl)))
  | ((with_reducible refine st_I ?h ?_); (case h => first | with_reducible assumption | (show (0 : Int) < _; omega) | exact ⟨by omega, by omega⟩ | exact .inl ⟨by omega, by omega⟩ | exact .inr ⟨by omega, by omega⟩ | exact ⟨by omega, by omega, by omega⟩))
  | with_reducible refine st_nil ?_
  | with_reducible refine st_cons ?_
  | with_reducible refine st_ret ?_
  | with_reducible refine st_call ?_
  | with_reducible refine st_cb ?_
  | with_reducible refine st_exb ?_
  | ((with_reducible refine' st_ixL ?h1 ?h2 ?_); (case h1 => kpt_turns); (case h2 => first | ((with_reducible apply at0); exact rfl) | ((with_reducible apply at1); exact rfl) | ((with_reducible apply at2); exact rfl) | ((with_reducible apply at3); exact rfl) | with_reducible assumption))
  | ((with_reducible refine' st_ixT ?h1 ?h2 ?_); (case h1 => kpt_turns); (case h2 => first | ((with_reducible apply at0); exact rfl) | ((with_reducible apply at1); exact rfl) | ((with_reducible apply at2); exact rfl) | with_reducible assumption))
  | ((with_reducible refine' st_ixP ?h1 ?h2 ?h3 ?h4 ?_); (case h1 => kpt_turns); (case h2 => (repeat constructor)); (case h3 => omega); (case h4 => (simp; omega)))
  | ((with_reducible refine' st_ixPT ?h1 ?h2 ?h3 ?h4 ?_); (case h1 => kpt_turns); (case h2 => (repeat constructor)); (case h3 => omega); (case h4 => (simp; omega)))
  | with_reducible refine st_tB ?_
  | with_reducible refine st_test ?_
  | with_reducible refine st_and ?_
  | with_reducible refine st_or ?_
  | with_reducible refine st_not ?_
  | with_reducible refine st_andV ?_
  | with_reducible refine st_orV ?_
  | with_reducible refine st_notV ?_
  | with_reducible refine st_chain ?_
  | with_reducible refine st_iT ?_
  | with_reducible refine st_iF ?_
  | with_reducible refine st_iNT ?_
  | with_reducible refine st_iNF ?_
  | with_reducible refine st_iRf ?_
  | with_reducible refine st_iNRf ?_
  | with_reducible refine st_asg ?_
  | ((with_reducible refine' st_parF ?e ?_); (case e => intro x y; (simp only [List.set_cons_zero, List.set_cons_succ]; exact rfl)))
  | with_reducible refine st_par2 ?_
  | with_reducible refine st_fst ?_
  | with_reducible refine st_jsE ?_
  | with_reducible refine st_js ?_
  | with_reducible refine st_fmt ?_
  | with_reducible refine st_joinK ?_
  | with_reducible refine st_strx ?_
  | ((with_reducible refine' st_par3F ?e ?_); (case e => intro x y z; (simp only [List.set_cons_zero, List.set_cons_succ]; exact rfl)))
  | with_reducible refine st_par3 ?_
  | ((with_reducible refine' st_augF ?h ?e ?_); (case h => exact rfl); (case e => intro x; (simp only [List.set_cons_zero, List.set_cons_succ]; exact rfl)))
  | with_reducible refine st_ipI ?_
  | with_reducible refine st_drop ?_
  | with_reducible refine st_next ?_
  | with_reducible refine st_un ?_
  | with_reducible refine st_U ?_
  | ((with_reducible refine' st_gNF ?e ?_); (case e => (simp only [List.set_cons_zero, List.set_cons_succ]; exact rfl)))
  | with_reducible refine st_gN ?_
  | ((with_reducible refine' st_gT ?h1 ?h2 ?_); (case h1 => kpt_turns); (case h2 => exact rfl))
  | with_reducible refine st_gC ?_
  | with_reducible refine st_gE ?_
  | with_reducible refine st_gS ?_
  | ((with_reducible refine' st_setL ?h1 ?h2 ?_); (case h1 => lcg_off); (case h2 => exact rfl))
  | with_reducible refine st_lst ?_
  | with_reducible refine st_tup ?_
  | ((with_reducible refine st_new ?h ?_); (case h => (simp; done)))
  | with_reducible refine st_callN ?_
  | with_reducible refine st_bm ?_
  | with_reducible refine st_bm0 ?_
  | ((with_reducible refine' st_tyL ?h ?_); (case h => kpt_turns))
  | ((with_reducible refine st_eq ?h ?_); (case h => exact rfl))
  | ((with_reducible refine st_ne ?h ?_); (case h => exact rfl))
  | with_reducible refine st_i1 ?_
  | with_reducible refine st_i2 ?_
  | with_reducible refine st_int ?_
  | with_reducible refine st_intb ?_
  | ((with_reducible refine' st_lenQ ?h ?_); (case h => kpt_turns))
  | ((with_reducible refine' st_lenQT ?h ?_); (case h => kpt_turns))
  | with_reducible refine st_yes ?_
  | with_reducible refine st_brk ?_
  | with_reducible refine st_cont ?_
  | with_reducible refine st_retN ?_
  | with_reducible refine st_forI ?_
  | with_reducible refine st_lcI ?_
  | with_reducible refine st_itL ?_
  | with_reducible refine st_itT ?_
  | with_reducible refine st_rng1 ?_
  | with_reducible refine st_rng2 ?_
  | with_reducible refine st_ref ?_
  | with_reducible refine st_sl ?_
  | with_reducible refine st_pN ?_
  | with_reducible refine st_pS ?_
  | with_reducible refine st_pI ?_
  | (refine ⟨rfl, ?_⟩))
local macro_rules | `(tactic| cell_call) => `(tactic| first
  | with_reducible refine st_seq ?_
  | ((with_reducible refine' st_setF ?e ?_); (case e => intro x; (simp only [List.set_cons_zero, List.set_cons_succ]; exact rfl)))
  | with_reducible refine st_c ?_
  | ((with_reducible refine' st_var ?h ?_); (case h => exact rfl))
  | with_reducible refine st_op ?_
  | with_reducible refine st_I0 ?_
  | ((with_reducible refine' st_powL ?c ?e ?_); (case c => exact ⟨by decide, by decide, by decide⟩); (case e => (simp only [Int.reduceToNat, Int.reducePow]; exact rfl)))
  | ((with_reducible refine st_I ?h ?_); (case h => first | with_reducible assumption | (show (0 : Int) < _; omega) | exact ⟨by omega, by omega⟩ | exact .inl ⟨by omega, by omega⟩ | exact .inr ⟨by omega, by omega⟩ | exact ⟨by omega, by omega, by omega⟩))
  | with_reducible refine st_nil ?_
  | with_reducible refine st_cons ?_
  | with_reducible refine st_ret ?_
  | with_reducible refine st_call ?_
  | with_reducible refine st_cb ?_
  | with_reducible refine st_exb ?_
  | ((with_reducible refine' st_ixL ?h1 ?h2 ?_); (case h1 => kpt_turns); (case h2 => first | ((with_reducible apply at0); exact rfl) | ((with_reducible apply at1); exact rfl) | ((with_reducible apply at2); exact rfl) | ((with_reducible apply at3); exact rfl) | with_reducible assumption))
  | ((with_reducible refine' st_ixT ?h1 ?h2 ?_); (case h1 => kpt_turns); (case h2 => first | ((with_reducible apply at0); exact rfl) | ((with_reducible apply at1); exact rfl) | ((with_reducible apply at2); exact rfl) | with_reducible assumption))
  | ((with_reducible refine' st_ixP ?h1 ?h2 ?h3 ?h4 ?_); (case h1 => kpt_turns); (case h2 => (repeat constructor)); (case h3 => omega); (case h4 => (simp; omega)))
  | ((with_reducible refine' st_ixPT ?h1 ?h2 ?h3 ?h4 ?_); (case h1 => kpt_turns); (case h2 => (repeat constructor)); (case h3 => omega); (case h4 => (simp; omega)))
  | with_reducible refine st_tB ?_
  | with_reducible refine st_test ?_
  | with_reducible refine st_and ?_
  | with_reducible refine st_or ?_
  | with_reducible refine st_not ?_
  | with_reducible refine st_andV ?_
  | with_reducible refine st_orV ?_
  | with_reducible refine st_notV ?_
  | with_reducible refine st_chain ?_
  | with_reducible refine st_iT ?_
  | with_reducible refine st_iF ?_
  | with_reducible refine st_iNT ?_
  | with_reducible refine st_iNF ?_
  | with_reducible refine st_iRf ?_
  | with_reducible refine st_iNRf ?_
  | with_reducible refine st_asg ?_
  | ((with_reducible refine' st_parF ?e ?_); (case e => intro x y; (simp only [List.set_cons_zero, List.set_cons_succ]; exact rfl)))
  | with_reducible refine st_par2 ?_
  | with_reducible refine st_fst ?_
  | with_reducible refine st_jsE ?_
  | with_reducible refine st_js ?_
  | with_reducible refine st_fmt ?_
  | with_reducible refine st_joinK ?_
  | with_reducible refine st_strx ?_
  | ((with_reducible refine' st_par3F ?e ?_); (case e => intro x y z; (simp only [List.set_cons_zero, List.set_cons_succ]; exact rfl)))
  | with_reducible refine st_par3 ?_
  | ((with_reducible refine' st_augF ?h ?e ?_); (case h => exact rfl); (case e => intro x; (simp only [List.set_cons_zero, List.set_cons_succ]; exact rfl)))
  | with_reducible refine st_ipI ?_
  | with_reducible refine st_drop ?_
  | with_reducible refine st_next ?_
  | with_reducible refine st_un ?_
  | with_reducible refine st_U ?_
  | ((with_reducible refine' st_gNF ?e ?_); (case e => (simp only [List.set_cons_zero, List.set_cons_succ]; exact rfl)))
  | with_reducible refine st_gN ?_
  | ((with_reducible refine' st_gT ?h1 ?h2 ?_); (case h1 => kpt_turns); (case h2 => exact rfl))
  | with_reducible refine st_gC ?_
  | with_reducible refine st_gE ?_
  | with_reducible refine st_gS ?_
  | ((with_reducible refine' st_setL ?h1 ?h2 ?_); (case h1 => lcg_off); (case h2 => exact rfl))
  | with_reducible refine st_lst ?_
  | with_reducible refine st_tup ?_
  | ((with_reducible refine st_new ?h ?_); (case h => (simp; done)))
  | with_reducible refine st_callN ?_
  | with_reducible refine st_bm ?_
  | with_reducible refine st_bm0 ?_
  | ((with_reducible refine' st_tyL ?h ?_); (case h => kpt_turns))
  | ((with_reducible refine st_eq ?h ?_); (case h => exact rfl))
  | ((with_reducible refine st_ne ?h ?_); (case h => exact rfl))
  | with_reducible refine st_i1 ?_
  | with_reducible refine st_i2 ?_
  | with_reducible refine st_int ?_
  | with_reducible refine st_intb ?_
  | ((with_reducible refine' st_lenQ ?h ?_); (case h => kpt_turns))
  | ((with_reducible refine' st_lenQT ?h ?_); (case h => kpt_turns))
  | with_reducible refine st_yes ?_
  | with_reducible refine st_brk ?_
  | with_reducible refine st_cont ?_
  | with_reducible refine st_retN ?_
  | with_reducible refine st_forI ?_
  | with_reducible refine st_lcI ?_
  | with_reducible refine st_itL ?_
  | with_reducible refine st_itT ?_
  | with_reducible refine st_rng1 ?_
  | with_reducible refine st_rng2 ?_
  | with_reducible refine st_ref ?_
  | with_reducible refine st_sl ?_
  | with_reducible refine st_pN ?_
  | with_reducible refine st_pS ?_
  | with_reducible refine st_pI ?_
  | (refine ⟨rfl, ?_⟩)
  | with_reducible refine st_ifE ?_
  | with_reducible refine st_ifS ?_)
local macro_rules | `(tactic| kpf_close) => `(tactic| first
  | cell_call
  | refine st_iD (fun _ => ?_) (fun _ => ?_)
  | refine st_iND (fun _ => ?_) (fun _ => ?_)
  | refine st_iNB (fun _ => ?_) (fun _ => ?_)
  | refine st_iB (fun _ => ?_) (fun _ => ?_))
local macro_rules | `(tactic| k_places) => `(tactic| first
  | with_reducible refine isi_non_bool ?_
  | with_reducible refine isi_non_int ?_
  | with_reducible refine isi_non_str ?_
  | with_reducible refine isi_non_list ?_
  | with_reducible refine isi_non_tuple ?_
  | with_reducible refine isi_bl_bool ?_
  | with_reducible refine isi_bl_int ?_
  | with_reducible refine isi_bl_str ?_
  | with_reducible refine isi_bl_list ?_
  | with_reducible refine isi_bl_tuple ?_
  | with_reducible refine isi_int_bool ?_
  | with_reducible refine isi_int_int ?_
  | with_reducible refine isi_int_str ?_
  | with_reducible refine isi_int_list ?_
  | with_reducible refine isi_int_tuple ?_
  | with_reducible refine isi_str_bool ?_
  | with_reducible refine isi_str_int ?_
  | with_reducible refine isi_str_str ?_
  | with_reducible refine isi_str_list ?_
  | with_reducible refine isi_str_tuple ?_
  | ((with_reducible refine' isi_list_bool ?h ?_); (case h => kpt_turns))
  | ((with_reducible refine' isi_list_int ?h ?_); (case h => kpt_turns))
  | ((with_reducible refine' isi_list_str ?h ?_); (case h => kpt_turns))
  | ((with_reducible refine' isi_list_list ?h ?_); (case h => kpt_turns))
  | ((with_reducible refine' isi_list_tuple ?h ?_); (case h => kpt_turns))
  | ((with_reducible refine' isi_tuple_bool ?h ?_); (case h => kpt_turns))
  | ((with_reducible refine' isi_tuple_int ?h ?_); (case h => kpt_turns))
  | ((with_reducible refine' isi_tuple_str ?h ?_); (case h => kpt_turns))
  | ((with_reducible refine' isi_tuple_list ?h ?_); (case h => kpt_turns))
  | ((with_reducible refine' isi_tuple_tuple ?h ?_); (case h => kpt_turns)))
local macro_rules | `(tactic| cell_call) => `(tactic| first
  | with_reducible refine st_zip ?_)
local macro_rules | `(tactic| k_ownIn) => `(tactic| first
  | with_reducible refine st_zip ?_)
local macro_rules | `(tactic| cell_call) => `(tactic| first
  | with_reducible refine st_disp ?_
  | with_reducible refine st_pr ?_
  | with_reducible refine st_prE ?_
  | with_reducible refine st_dget ?_
  | with_reducible refine st_dput ?_
  | with_reducible refine st_daug ?_
  | ((with_reducible refine' st_bgG ?h ?_); (case h => lcg_off))
  | ((with_reducible refine' st_bgL ?h ?_); (case h => lcg_off))
  | ((with_reducible refine' st_bgT ?h ?_); (case h => lcg_off))
  | ((with_reducible refine' st_bgF ?h ?_); (case h => lcg_off))
  | ((with_reducible refine' st_bpL ?h ?_); (case h => lcg_off)))
local macro_rules | `(tactic| k_ownIn) => `(tactic| first
  | with_reducible refine st_disp ?_
  | with_reducible refine st_pr ?_
  | with_reducible refine st_prE ?_
  | with_reducible refine st_dget ?_
  | with_reducible refine st_dput ?_
  | with_reducible refine st_daug ?_
  | ((with_reducible refine' st_bgG ?h ?_); (case h => lcg_off))
  | ((with_reducible refine' st_bgL ?h ?_); (case h => lcg_off))
  | ((with_reducible refine' st_bgT ?h ?_); (case h => lcg_off))
  | ((with_reducible refine' st_bgF ?h ?_); (case h => lcg_off))
  | ((with_reducible refine' st_bpL ?h ?_); (case h => lcg_off)))
local macro_rules | `(tactic| cell_call) => `(tactic| first
  | with_reducible refine st_veI ?_
  | with_reducible refine st_ost ?_
  | with_reducible refine st_mko ?_
  | with_reducible refine st_xv ?_
  | with_reducible refine st_lrg ?_
  | with_reducible refine st_callS ?_
  | with_reducible refine st_rg2 ?_
  | with_reducible refine st_rgE ?_)
local macro_rules | `(tactic| k_ownIn) => `(tactic| first
  | with_reducible refine st_veI ?_
  | with_reducible refine st_ost ?_
  | with_reducible refine st_mko ?_
  | with_reducible refine st_xv ?_
  | with_reducible refine st_lrg ?_
  | with_reducible refine st_callS ?_
  | with_reducible refine st_rg2 ?_
  | with_reducible refine st_rgE ?_)
local macro_rules | `(tactic| cell_call) => `(tactic| first
  | with_reducible refine st_inC ?_
  | with_reducible refine st_itS ?_
  | with_reducible refine st_itS1 ?_)
local macro_rules | `(tactic| k_ownIn) => `(tactic| first
  | with_reducible refine st_inC ?_
  | with_reducible refine st_itS ?_
  | with_reducible refine st_itS1 ?_)
local macro_rules | `(tactic| cell_call) => `(tactic| first
  | with_reducible refine st_frz ?_
  | with_reducible refine st_itI ?_
  | with_reducible refine st_dg2 ?_
  | with_reducible refine st_dput ?_
  | with_reducible refine st_scI ?_)
local macro_rules | `(tactic| cell_call) => `(tactic| first
  | with_reducible refine st_revI ?_)
local macro_rules | `(tactic| k_ownIn) => `(tactic| first
  | with_reducible refine st_revI ?_)
local macro_rules | `(tactic| cell_call) => `(tactic| first
  | with_reducible refine st_frzA ?_
  | with_reducible refine st_itK ?_)
local macro_rules | `(tactic| k_ownIn) => `(tactic| first
  | with_reducible refine st_frzA ?_
  | with_reducible refine st_itK ?_)
section
variable {P : Program} {w : World} {K : PySem.W.Frag} {mg : Str → Option Value} {base : Heap}
def sp_law_extra (K : PySem.W.Frag) : Sp := fun vs H Q _ => ∃ (A P : Addr) (w : Int) (ps : List Int), vs = [.ref A, .int w, .ref P] ∧ SqL K H A (msk.map V.int) ∧ SqL K H P (ps.map V.int) ∧
  ∀ e H', Same H H' → Ext (stp w) (bL ps) w e → Q (.int e) H'
theorem stp_take (w : Int) (i : Nat) {m : Int} (h : msk[i]? = some m) : ((msk.take (i + 1)).filter fun m => decide (Builtin.bitAnd w m = w)) = ((msk.take i).filter fun m => decide (Builtin.bitAnd w m = w)) ++ if Builtin.bitAnd w m = w then [m] else [] := by
  rw [List.take_add_one, h, List.filter_append]
  by_cases c : Builtin.bitAnd w m = w
  · rw [if_pos c]
    simp [c]
  · rw [if_neg c]
    simp [c]
theorem mem_round {ls kk : List Int} {k : Int} : k ∈ ls.flatMap (fun o => kk.map (Builtin.bitAnd o)) ↔ ∃ o ∈ ls, ∃ m ∈ kk, k = Builtin.bitAnd o m := by
  rw [List.mem_flatMap]
  constructor
  · rintro ⟨o, ho, h⟩
    obtain ⟨m, hm, rfl⟩ := List.mem_map.mp h
    exact ⟨o, ho, m, hm, rfl⟩
  · rintro ⟨o, ho, m, hm, rfl⟩
    exact ⟨o, ho, List.mem_map_of_mem hm⟩
theorem mul_le {i n m : Nat} (h : i ≤ n) (b : m ≤ 400) : i * m ≤ n * 400 := Nat.mul_le_mul h b
theorem ok_law_extra (T : Txt K mg) : FnOk P w K mg base CX0 2 (He.ga K "_law_extra") T.fd_law_extra ["masks", "wanted", "present"] (sp_law_extra K) := by
  refine T.F_law_extra.ok sc_law_extra (fun vs H Q E h => ?_) (fun cdv A outer s H vs Q E hr h => ?_)
  · obtain ⟨A, P, w, ps, rfl, _⟩ := h
    rfl
  · obtain ⟨A, P, w, ps, rfl, hA, hP, q⟩ := h
    refine ⟨_, PSs.nox (pss_cons (ps_set (i := 3) sc_law_extra.nd rfl (Or.inl rfl) pe_dnewK)
      (pss_cons (ps_for PassesOwn.never rfl (show PI _ _ _ (iList K _) from pi_list (pv 0)) (pg_name (i := 4) sc_law_extra.nd rfl (Or.inl rfl)) (pss_one (ps_if (pt_cmpR op_eqI (pe_op op_and (pv 1) (pv 4)) (pv 1) (nomark _)) (pss_one (ps_dput (hu_of hr) (pv 3) (pv 4) pe_bl rfl)) pss_nil)))
      (pss_cons (ps_set (i := 5) sc_law_extra.nd rfl (Or.inl rfl) (pe_lst (pa_cons (pe_call (ok_law_joined T) (hr.mono (by decide)) rfl T.g_law_joined T.F_law_joined.kp (b_law_joined T) .nil pass0 (pa_cons (pv 0) (pa_cons (pv 2) pa_nil))) pa_nil)))
      (pss_cons (ps_if (pt_cmpR (show OpR _ _ (rEqD K) from (op_eqD hr.units)) (pv 5) (pe_lst (pa_cons (pv 1) pa_nil)) (nomark _)) (pss_one (ps_ret pe_int)) pss_nil)
      (pss_cons (ps_for PassesOwn.never rfl (pi_range1 (by rfl) T.b_range (pa_cons pe_int pa_nil)) (pg_name (i := 6) sc_law_extra.nd rfl (Or.inl rfl)) (pss_cons (ps_set (i := 7) sc_law_extra.nd rfl (Or.inl rfl) pe_dnewK)
      (pss_cons (ps_for PassesOwn.never rfl (show PI _ _ _ (iList K _) from pi_list (pv 5)) (pg_name (i := 8) sc_law_extra.nd rfl (Or.inl rfl)) (pss_one (ps_for PassesOwn.never rfl (pi_keys (pe_frzA (pv 3))) (pg_name (i := 4) sc_law_extra.nd rfl (Or.inl rfl)) (pss_cons (ps_if (pt_cmpR op_eqI (pe_op op_and (pv 8) (pv 4)) (pv 1) (nomark _)) (pss_one (ps_ret (pe_op op_add (pv 6) pe_int))) pss_nil)
      (pss_one (ps_dput (hu_of hr) (pv 7) (pe_op op_and (pv 8) (pv 4)) pe_bl rfl))))))
      (pss_one (ps_set (i := 5) sc_law_extra.nd rfl (Or.inl rfl) (pe_callTy (call_list_dK rfl) (by rfl) T.b_list (by decide +kernel) (pa_cons (pv 7) pa_nil)))))))
      (pss_one (ps_ret pe_int))))))), ?_⟩
    rw [start_law_extra]
    repeat cell_call
    intro D nD
    have s0 : Same H (upd H D (.dK [])) := Same.new nD
    repeat cell_call
    refine ⟨⟨_, s0.seq hA⟩, fL (xs := msk.map V.int) (fun i σ' H' => Same H H' ∧ ∃ x es, σ' = [some (.ref A), some (.int w), some (.ref P), some (.ref D), x, none, none, none, none] ∧ H' D = some (.dK es) ∧ es.length ≤ i ∧ KeyS es ((msk.take i).filter fun m => decide (Builtin.bitAnd w m = w)))
      ⟨s0, none, [], rfl, upd_same, Nat.le_refl _, KeyS.nil⟩ (fun i σ' H' _ e => e.1.seq hA) (fun i x σ' H' hx e => ?_) (fun σ' H' e => ?_)⟩
    · clear s0
      obtain ⟨sm, x', es, rfl, hD, el, ks⟩ := e
      obtain ⟨m, hm, rfl⟩ := int_at hx
      have hi := (List.getElem?_eq_some_iff.mp hm).1
      rw [msk_len] at hi
      have st := stp_take w i hm
      repeat cell_call
      refine st_iD (fun h1 => ?_) (fun h1 => ?_)
      · rw [if_pos h1] at st
        repeat cell_call
        refine ⟨D, _, rfl, DPut.k (k := .inl m) hD (by rw [sizeLine_eq]; omega), ?_⟩
        have pl := putK_len es (.inl m) (.bl true)
        refine ⟨same_trU nD sm, _, _, rfl, upd_same, by omega, ?_⟩
        rw [st]
        exact ks.put m _
      · rw [if_neg h1, List.append_nil] at st
        repeat cell_call
        exact ⟨sm, _, _, rfl, hD, by omega, by rw [st]; exact ks⟩
    · clear s0
      obtain ⟨sm, x', es, rfl, hD, el, ks⟩ := e
      rw [List.length_map, msk_len] at el
      rw [List.length_map, List.take_length] at ks
      replace ks : KeyS es (stp w) := ks
      obtain ⟨kk, ek, kl, km⟩ := ks.list
      have hA1 := sm.seq hA
      have hP1 := sm.seq hP
      repeat cell_call
      refine ⟨A, P, ps, rfl, hA1, hP1, ?_⟩
      generalize bL ps = J at *
      repeat cell_call
      intro N nN
      have sm1 : Same H (upd H' N (.lst [.int J])) := same_trN nN sm
      have hN : (upd H' N (.lst [.int J])) N = some (.lst (([J] : List Int).map V.int)) := upd_same
      have hD1 := hp_ne (o' := .lst [.int J]) (ne_of_none hD nN) hD
      have eND := ne_of_none hD nN
      generalize upd H' N (.lst [.int J]) = H1 at *
      clear sm hD nN hA1 hP1
      repeat cell_call
      intro B nB
      have sm2 := same_trN (o := .lst [.int w]) nB sm1
      have hN2 := hp_ne (o' := .lst [.int w]) (ne_of_none hN nB) hN
      have hD2 := hp_ne (o' := .lst [.int w]) (ne_of_none hD1 nB) hD1
      have hB : (upd H1 B (.lst [.int w])) B = some (.lst (([w] : List Int).map V.int)) := upd_same
      generalize upd H1 B (.lst [.int w]) = H2 at *
      clear nB sm1 hN hD1
      refine st_eqI (SqL.of hN2) (SqL.of hB) ?_
      repeat cell_call
      refine st_iD (fun h1 => ?_) (fun h1 => ?_)
      · repeat cell_call
        exact q 0 _ sm2 (.inl ⟨rfl, (List.cons.inj h1).1⟩)
      · have hJ : J ≠ w := fun z => h1 (by rw [z])
        clear h1 hB
        repeat cell_call
        refine ⟨by omega, by omega, fR (fun i σ' H' => Same H H' ∧ (H' D = some (.dK es) ∨ ∃ od, H' D = some (.frz od (.dK es))) ∧ ∃ N' ls, H' N' = some (.lst (ls.map V.int)) ∧ N' ≠ D ∧ ls.length ≤ 400 ^ i ∧ InvR (stp w) J w i ls ∧ ∃ a b c d, σ' = [some (.ref A), some (.int w), some (.ref P), some (.ref D), a, some (.ref N'), b, c, d]) ⟨sm2, .inl hD2, N, [J], hN2, eND.symm, Nat.le_refl _, .inl ⟨rfl, rfl⟩, _, _, _, _, rfl⟩ (fun i σ1 H3 hi e => ?_) (fun σ1 H3 e => ?_)⟩
        · clear sm2 hD2 hN2 eND
          obtain ⟨sm, hD, N', ls, hN, eN, ll, inv, a, b, c, d, rfl⟩ := e
          have hi2 : i < 2 := hi
          have l400 : ls.length ≤ 400 := Nat.le_trans ll (by
            match i, hi2 with
            | 0, _ => decide
            | 1, _ => decide)
          rw [Int.zero_add]
          repeat cell_call
          intro E nE
          have eDE : D ≠ E := by
            rcases hD with h | ⟨_, h⟩
            · exact ne_of_none h nE
            · exact ne_of_none h nE
          have eNE := ne_of_none hN nE
          have nE0 := same_free nE sm
          have sm3 := same_trN (o := .dK []) nE sm
          have hN3 := hp_ne (o' := .dK []) eNE hN
          have hD3 : (upd H3 E (.dK [])) D = some (.dK es) ∨ ∃ od, (upd H3 E (.dK [])) D = some (.frz od (.dK es)) := hD.imp (fun h => hp_ne eDE h) fun ⟨od, h⟩ => ⟨od, hp_ne eDE h⟩
          have hE : (upd H3 E (.dK [])) E = some (.dK []) := upd_same
          generalize upd H3 E (.dK []) = H4 at *
          clear nE sm hN hD
          repeat cell_call
          refine ⟨⟨_, SqL.of hN3⟩, fL (xs := ls.map V.int) (fun j σ' H' => Same H H' ∧ (H' D = some (.dK es) ∨ ∃ od, H' D = some (.frz od (.dK es))) ∧ H' N' = some (.lst (ls.map V.int)) ∧ (∃ es', H' E = some (.dK es') ∧ es'.length ≤ j * 400 ∧ KeyS es' ((ls.take j).flatMap fun o => kk.map (Builtin.bitAnd o))) ∧ (∀ o ∈ ls.take j, ∀ m ∈ kk, Builtin.bitAnd o m ≠ w) ∧ ∃ a d, σ' = [some (.ref A), some (.int w), some (.ref P), some (.ref D), a, some (.ref N'), some (.int i), some (.ref E), d])
            ⟨sm3, hD3, hN3, ⟨[], hE, Nat.le_refl _, KeyS.nil⟩, fun o ho => (by cases ho), _, _, rfl⟩ (fun j σ' H' _ e => SqL.of e.2.2.1) (fun j x σ' H5 hx e => ?_) (fun σ' H5 e => ?_)⟩
          · clear sm3 hD3 hN3 hE
            obtain ⟨sm, hD, hN, ⟨es', hE, el', ks'⟩, nh, a, d, rfl⟩ := e
            obtain ⟨o, ho, rfl⟩ := int_at hx
            have jl := (List.getElem?_eq_some_iff.mp ho).1
            repeat cell_call
            refine ⟨D, es, rfl, ?_⟩
            rcases hD with hD | ⟨od, hD⟩
            · refine .inl ⟨hD, fun od => ?_⟩
              have sm' := same_trU (o := .frz od (.dK es)) nD sm
              have hN' := hp_ne (o' := .frz od (.dK es)) eN hN
              have hE' := hp_ne (o' := .frz od (.dK es)) eDE.symm hE
              have hD' : (upd H5 D (.frz od (.dK es))) D = some (.frz od (.dK es)) := upd_same
              generalize upd H5 D (.frz od (.dK es)) = H6 at *
              clear hD hN hE sm
              have sm := sm'
              have hN := hN'
              have hE := hE'
              have hD := hD'
              clear sm' hN' hE' hD'
              refine ⟨D, od, rfl, .inl ⟨es, hD, ?_⟩⟩
              refine fK (fun t σ' H' => Same H H' ∧ H' D = some (.frz od (.dK es)) ∧ H' N' = some (.lst (ls.map V.int)) ∧ (∃ es2, H' E = some (.dK es2) ∧ es2.length ≤ j * 400 + t ∧ KeyS es2 (((ls.take j).flatMap fun o => kk.map (Builtin.bitAnd o)) ++ (kk.take t).map (Builtin.bitAnd o))) ∧ (∀ m ∈ kk.take t, Builtin.bitAnd o m ≠ w) ∧ ∃ a, σ' = [some (.ref A), some (.int w), some (.ref P), some (.ref D), a, some (.ref N'), some (.int i), some (.ref E), some (.int o)])
                ⟨sm, hD, hN, ⟨es', hE, by omega, by rw [List.take_zero, List.map_nil, List.append_nil]; exact ks'⟩, fun m hm => (by cases hm), _, rfl⟩ (fun t σ' H' _ e => e.2.1) (fun t k v σ' H7 hk e => ?_) (fun σ' H7 e => ?_)
              · clear sm hD hN hE ks' el'
                obtain ⟨sm, hD, hN, ⟨es2, hE, l2, ks2⟩, nm, a, rfl⟩ := e
                have e2 : (kk.map V.int)[t]? = some (kV k) := by
                  rw [← ek, List.getElem?_map, hk]
                  rfl
                obtain ⟨m, gm, em⟩ := int_at e2
                rw [em]
                have tl := (List.getElem?_eq_some_iff.mp hk).1
                repeat cell_call
                refine st_iD (fun h1 => ?_) (fun h1 => ?_)
                · repeat cell_call
                  exact q _ _ sm (inv.hit hi2 hJ (List.mem_of_getElem? ho) ((km m).mp (List.mem_of_getElem? gm)) h1)
                · repeat cell_call
                  refine ⟨E, _, rfl, DPut.k (k := .inl (Builtin.bitAnd o m)) hE (by rw [sizeLine_eq]; omega), ?_⟩
                  have pl := putK_len es2 (.inl (Builtin.bitAnd o m)) (.bl true)
                  refine ⟨same_trU nE0 sm, hp_ne eDE hD, hp_ne eNE hN, ⟨_, upd_same, by omega, ?_⟩, fun m' hm' => ?_, _, rfl⟩
                  · rw [List.take_add_one, gm, List.map_append, ← List.append_assoc]
                    exact ks2.put _ _
                  · rw [List.take_add_one, gm] at hm'
                    rcases List.mem_append.mp hm' with hm' | hm'
                    · exact nm m' hm'
                    · rw [List.mem_singleton.mp hm']
                      exact h1
              · clear sm hD hN hE ks' el'
                obtain ⟨sm, hD, hN, ⟨es2, hE, l2, ks2⟩, nm, a, rfl⟩ := e
                rw [← kl, List.take_length] at nm ks2
                repeat cell_call
                refine ⟨sm, .inr ⟨od, hD⟩, hN, ⟨es2, hE, by omega, ?_⟩, fun o' ho' => ?_, _, _, rfl⟩
                · rw [List.take_add_one, ho, List.flatMap_append]
                  show KeyS es2 (_ ++ [o].flatMap fun o => kk.map (Builtin.bitAnd o))
                  rw [List.flatMap_cons, List.flatMap_nil, List.append_nil]
                  exact ks2
                · rw [List.take_add_one, ho] at ho'
                  rcases List.mem_append.mp ho' with ho' | ho'
                  · exact nh o' ho'
                  · rw [List.mem_singleton.mp ho']
                    exact nm
            · refine .inr ⟨od, hD, ?_⟩
              refine ⟨D, od, rfl, .inl ⟨es, hD, ?_⟩⟩
              refine fK (fun t σ' H' => Same H H' ∧ H' D = some (.frz od (.dK es)) ∧ H' N' = some (.lst (ls.map V.int)) ∧ (∃ es2, H' E = some (.dK es2) ∧ es2.length ≤ j * 400 + t ∧ KeyS es2 (((ls.take j).flatMap fun o => kk.map (Builtin.bitAnd o)) ++ (kk.take t).map (Builtin.bitAnd o))) ∧ (∀ m ∈ kk.take t, Builtin.bitAnd o m ≠ w) ∧ ∃ a, σ' = [some (.ref A), some (.int w), some (.ref P), some (.ref D), a, some (.ref N'), some (.int i), some (.ref E), some (.int o)])
                ⟨sm, hD, hN, ⟨es', hE, by omega, by rw [List.take_zero, List.map_nil, List.append_nil]; exact ks'⟩, fun m hm => (by cases hm), _, rfl⟩ (fun t σ' H' _ e => e.2.1) (fun t k v σ' H7 hk e => ?_) (fun σ' H7 e => ?_)
              · clear sm hD hN hE ks' el'
                obtain ⟨sm, hD, hN, ⟨es2, hE, l2, ks2⟩, nm, a, rfl⟩ := e
                have e2 : (kk.map V.int)[t]? = some (kV k) := by
                  rw [← ek, List.getElem?_map, hk]
                  rfl
                obtain ⟨m, gm, em⟩ := int_at e2
                rw [em]
                have tl := (List.getElem?_eq_some_iff.mp hk).1
                repeat cell_call
                refine st_iD (fun h1 => ?_) (fun h1 => ?_)
                · repeat cell_call
                  exact q _ _ sm (inv.hit hi2 hJ (List.mem_of_getElem? ho) ((km m).mp (List.mem_of_getElem? gm)) h1)
                · repeat cell_call
                  refine ⟨E, _, rfl, DPut.k (k := .inl (Builtin.bitAnd o m)) hE (by rw [sizeLine_eq]; omega), ?_⟩
                  have pl := putK_len es2 (.inl (Builtin.bitAnd o m)) (.bl true)
                  refine ⟨same_trU nE0 sm, hp_ne eDE hD, hp_ne eNE hN, ⟨_, upd_same, by omega, ?_⟩, fun m' hm' => ?_, _, rfl⟩
                  · rw [List.take_add_one, gm, List.map_append, ← List.append_assoc]
                    exact ks2.put _ _
                  · rw [List.take_add_one, gm] at hm'
                    rcases List.mem_append.mp hm' with hm' | hm'
                    · exact nm m' hm'
                    · rw [List.mem_singleton.mp hm']
                      exact h1
              · clear sm hD hN hE ks' el'
                obtain ⟨sm, hD, hN, ⟨es2, hE, l2, ks2⟩, nm, a, rfl⟩ := e
                rw [← kl, List.take_length] at nm ks2
                repeat cell_call
                refine ⟨sm, .inr ⟨od, hD⟩, hN, ⟨es2, hE, by omega, ?_⟩, fun o' ho' => ?_, _, _, rfl⟩
                · rw [List.take_add_one, ho, List.flatMap_append]
                  show KeyS es2 (_ ++ [o].flatMap fun o => kk.map (Builtin.bitAnd o))
                  rw [List.flatMap_cons, List.flatMap_nil, List.append_nil]
                  exact ks2
                · rw [List.take_add_one, ho] at ho'
                  rcases List.mem_append.mp ho' with ho' | ho'
                  · exact nh o' ho'
                  · rw [List.mem_singleton.mp ho']
                    exact nm
          · clear sm3 hD3 hN3 hE
            obtain ⟨sm, hD, hN, ⟨es', hE, el', ks'⟩, nh, a, d, rfl⟩ := e
            rw [List.length_map] at el'
            rw [List.length_map, List.take_length] at ks' nh
            obtain ⟨ls', ek', kl', km'⟩ := ks'.list
            repeat cell_call
            refine ⟨E, es', rfl, hE, fun M nM => ?_⟩
            rw [ek']
            have eDM : D ≠ M := by
              rcases hD with h | ⟨_, h⟩
              · exact ne_of_none h nM
              · exact ne_of_none h nM
            refine ⟨same_trN nM sm, hD.imp (fun h => hp_ne eDM h) (fun ⟨od, h⟩ => ⟨od, hp_ne eDM h⟩), M, ls', upd_same, eDM.symm, ?_, inv.next hi2 (fun o ho m hm => nh o ho m ((km m).mpr hm)) (fun k => (km' k).trans (mem_round.trans ⟨fun ⟨o, ho, m, hm, e⟩ => ⟨o, ho, m, (km m).mp hm, e⟩, fun ⟨o, ho, m, hm, e⟩ => ⟨o, ho, m, (km m).mpr hm, e⟩⟩)), _, _, _, _, rfl⟩
            rw [kl', Nat.pow_succ]
            exact Nat.le_trans el' (Nat.mul_le_mul_right _ ll)
        · clear sm2 hD2 hN2 eND
          obtain ⟨sm, hD, N', ls, hN, eN, ll, inv, a, b, c, d, rfl⟩ := e
          repeat cell_call
          exact q 3 _ sm (inv.fin hJ)

end
end Mc
namespace Mc
open PySem PySem.Spec PyProof.Rows L2
local macro_rules | `(tactic| lcg_src) => `(tactic| first
  | with_reducible assumption
  | ((with_reducible apply Ne.symm); with_reducible assumption)
  | ((with_reducible apply ne_nf); (with_reducible assumption); lcg_off)
  | ((with_reducible apply Ne.symm); (with_reducible apply ne_nf); (with_reducible assumption); lcg_off))
local macro_rules | `(tactic| lcg_off) => `(tactic| first
  | with_reducible assumption
  | (with_reducible exact upd_same)
  | ((with_reducible apply hp_ne); lcg_src; lcg_off)
  | ((with_reducible apply hp_same); (with_reducible assumption); lcg_off)
  | ((with_reducible apply hp_frm); (with_reducible assumption); lcg_src; lcg_off)
  | ((with_reducible apply hp_frm2); (with_reducible assumption); lcg_src; lcg_src; lcg_off)
  | assumption)
local macro_rules | `(tactic| kpt_turns) => `(tactic| first
  | with_reducible assumption
  | ((with_reducible apply SqL.of); lcg_off)
  | ((with_reducible apply SqT.of); lcg_off)
  | ((with_reducible apply Frm.seq); (with_reducible assumption); lcg_src; kpt_turns)
  | ((with_reducible apply Frm.tup); (with_reducible assumption); lcg_src; kpt_turns)
  | ((with_reducible apply Frm2.seq); (with_reducible assumption); lcg_src; lcg_src; kpt_turns)
  | ((with_reducible apply Frm2.tup); (with_reducible assumption); lcg_src; lcg_src; kpt_turns)
  | ((with_reducible apply L2.Same.seq); (with_reducible assumption); kpt_turns)
  | ((with_reducible apply Same.tup); (with_reducible assumption); kpt_turns)
  | assumption)
local macro_rules | `(tactic| k_memK) => `(tactic| first
  | with_reducible exact Frm.refl _
  | with_reducible assumption
  | ((with_reducible apply Frm.trN); (with_reducible assumption); k_memK)
  | ((with_reducible apply Frm.trU); k_memK)
  | ((with_reducible apply Frm.trM); (with_reducible assumption); k_memK)
  | ((with_reducible apply Frm.tr); (with_reducible assumption); k_memK)
  | ((with_reducible apply Frm.trS); (with_reducible assumption); k_memK)
  | with_reducible exact Frm2.refl _
  | ((with_reducible apply Frm2.trN); (with_reducible assumption); k_memK)
  | ((with_reducible apply Frm2.trU); k_memK)
  | ((with_reducible apply Frm2.trV); k_memK)
  | ((with_reducible apply Frm2.trM); (with_reducible assumption); k_memK)
  | ((with_reducible apply Frm2.tr); (with_reducible assumption); k_memK)
  | ((with_reducible apply Frm2.trS); (with_reducible assumption); k_memK))
local macro_rules | `(tactic| k_allIn) => `(tactic| first
  | with_reducible exact L2.Same.refl _
  | with_reducible assumption
  | ((with_reducible apply same_trN); (with_reducible assumption); k_allIn)
  | ((with_reducible apply same_trU); (with_reducible assumption); k_allIn)
  | ((with_reducible apply same_tr); (with_reducible assumption); k_allIn))
local macro_rules | `(tactic| k_ownIn) => `(tactic| first
  | with_reducible refine st_seq ?_
  | ((with_reducible refine' st_setF ?e ?_); (case e => intro x; (simp only [List.set_cons_zero, List.set_cons_succ]; exact rfl)))
  | with_reducible refine st_c ?_
  | ((with_reducible refine' st_var ?h ?_); (case h => exact rfl))
  | with_reducible refine st_op ?_
  | with_reducible refine st_I0 ?_
  | ((with_reducible refine' st_powL ?c ?e ?_); (case c => exact ⟨by decide, by decide, by decide⟩); (case e => (simp only [Int.reduceToNat, Int.reducePow]; exact rfl)))
  | ((with_reducible refine st_I ?h ?_); (case h => first | with_reducible assumption | (show (0 : Int) < _; omega) | exact ⟨by omega, by omega⟩ | exact .inl ⟨by omega, by omega⟩ | exact .inr ⟨by omega, by omega⟩ | exact ⟨by omega, by omega, by omega⟩))
  | with_reducible refine st_nil ?_
  | with_reducible refine st_cons ?_
  | with_reducible refine st_ret ?_
  | with_reducible refine st_call ?_
  | with_reducible refine st_cb ?_
  | with_reducible refine st_exb ?_
  | ((with_reducible refine' st_ixL ?h1 ?h2 ?_); (case h1 => kpt_turns); (case h2 => first | ((with_reducible apply at0); exact rfl) | ((with_reducible apply at1); exact rfl) | ((with_reducible apply at2); exact rfl) | ((with_reducible apply at3); exact rfl) | with_reducible assumption))
  | ((with_reducible refine' st_ixT ?h1 ?h2 ?_); (case h1 => kpt_turns); (case h2 => first | ((with_reducible apply at0); exact rfl) | ((with_reducible apply at1); exact rfl) | ((with_reducible apply at2); exact rfl) | with_reducible assumption))
  | ((with_reducible refine' st_ixP ?h1 ?h2 ?h3 ?h4 ?_); (case h1 => kpt_turns); (case h2 => (repeat constructor)); (case h3 => omega); (case h4 => (simp; omega)))
  | ((with_reducible refine' st_ixPT ?h1 ?h2 ?h3 ?h4 ?_); (case h1 => kpt_turns); (case h2 => (repeat constructor)); (case h3 => omega); (case h4 => (simp; omega)))
  | with_reducible refine st_tB ?_
  | with_reducible refine st_test ?_
  | with_reducible refine st_and ?_
  | with_reducible refine st_or ?_
  | with_reducible refine st_not ?_
  | with_reducible refine st_andV ?_
  | with_reducible refine st_orV ?_
  | with_reducible refine st_notV ?_
  | with_reducible refine st_chain ?_
  | with_reducible refine st_iT ?_
  | with_reducible refine st_iF ?_
  | with_reducible refine st_iNT ?_
  | with_reducible refine st_iNF ?_
  | with_reducible refine st_iRf ?_
  | with_reducible refine st_iNRf ?_
  | with_reducible refine st_asg ?_
  | ((with_reducible refine' st_parF ?e ?_); (case e => intro x y; (simp only [List.set_cons_zero, List.set_cons_succ]; exact rfl)))
  | with_reducible refine st_par2 ?_
  | with_reducible refine st_fst ?_
  | with_reducible refine st_jsE ?_
  | with_reducible refine st_js ?_
  | with_reducible refine st_fmt ?_
  | with_reducible refine st_joinK ?_
  | with_reducible refine st_strx ?_
  | ((with_reducible refine' st_par3F ?e ?_); (case e => intro x y z; (simp only [List.set_cons_zero, List.set_cons_succ]; exact rfl)))
  | with_reducible refine st_par3 ?_
  | ((with_reducible refine' st_augF ?h ?e ?_); (case h => exact rfl); (case e => intro x; (simp only [List.set_cons_zero, List.set_cons_succ]; exact rfl)))
  | with_reducible refine st_ipI ?_
  | with_reducible refine st_drop ?_
  | with_reducible refine st_next ?_
  | with_reducible refine st_un ?_
  | with_reducible refine st_U ?_
  | ((with_reducible refine' st_gNF ?e ?_); (case e => (simp only [List.set_cons_zero, List.set_cons_succ]; exact rfl)))
  | with_reducible refine st_gN ?_
  | ((with_reducible refine' st_gT ?h1 ?h2 ?_); (case h1 => kpt_turns); (case h2 => exact rfl))
  | with_reducible refine st_gC ?_
  | with_reducible refine st_gE ?_
  | with_reducible refine st_gS ?_
  | ((with_reducible refine' st_setL ?h1 ?h2 ?_); (case h1 => lcg_off); (case h2 => exact rfl))
  | with_reducible refine st_lst ?_
  | with_reducible refine st_tup ?_
  | ((with_reducible refine st_new ?h ?_); (case h => (simp; done)))
  | with_reducible refine st_callN ?_
  | with_reducible refine st_bm ?_
  | with_reducible refine st_bm0 ?_
  | ((with_reducible refine' st_tyL ?h ?_); (case h => kpt_turns))
  | ((with_reducible refine st_eq ?h ?_); (case h => exact rfl))
  | ((with_reducible refine st_ne ?h ?_); (case h => exact rfl))
  | with_reducible refine st_i1 ?_
  | with_reducible refine st_i2 ?_
  | with_reducible refine st_int ?_
  | with_reducible refine st_intb ?_
  | ((with_reducible refine' st_lenQ ?h ?_); (case h => kpt_turns))
  | ((with_reducible refine' st_lenQT ?h ?_); (case h => kpt_turns))
  | with_reducible refine st_yes ?_
  | with_reducible refine st_brk ?_
  | with_reducible refine st_cont ?_
  | with_reducible refine st_retN ?_
  | with_reducible refine st_forI ?_
  | with_reducible refine st_lcI ?_
  | with_reducible refine st_itL ?_
  | with_reducible refine st_itT ?_
  | with_reducible refine st_rng1 ?_
  | with_reducible refine st_rng2 ?_
  | with_reducible refine st_ref ?_
  | with_reducible refine st_sl ?_
  | with_reducible refine st_pN ?_
  | with_reducible refine st_pS ?_
  | with_reducible refine st_pI ?_
  | (refine ⟨rfl, ?_⟩))
local macro_rules | `(tactic| cell_call) => `(tactic| first
  | with_reducible refine st_seq ?_
  | ((with_reducible refine' st_setF ?e ?_); (case e => intro x; (simp only [List.set_cons_zero, List.set_cons_succ]; exact rfl)))
  | with_reducible refine st_c ?_
  | ((with_reducible refine' st_var ?h ?_); (case h => exact rfl))
  | with_reducible refine st_op ?_
  | with_reducible refine st_I0 ?_
  | ((with_reducible refine' st_powL ?c ?e ?_); (case c => exact ⟨by decide, by decide, by decide⟩); (case e => (simp only [Int.reduceToNat, Int.reducePow]; exact rfl)))
  | ((with_reducible refine st_I ?h ?_); (case h => first | with_reducible assumption | (show (0 : Int) < _; omega) | exact ⟨by omega, by omega⟩ | exact .inl ⟨by omega, by omega⟩ | exact .inr ⟨by omega, by omega⟩ | exact ⟨by omega, by omega, by omega⟩))
  | with_reducible refine st_nil ?_
  | with_reducible refine st_cons ?_
  | with_reducible refine st_ret ?_
  | with_reducible refine st_call ?_
  | with_reducible refine st_cb ?_
  | with_reducible refine st_exb ?_
  | ((with_reducible refine' st_ixL ?h1 ?h2 ?_); (case h1 => kpt_turns); (case h2 => first | ((with_reducible apply at0); exact rfl) | ((with_reducible apply at1); exact rfl) | ((with_reducible apply at2); exact rfl) | ((with_reducible apply at3); exact rfl) | with_reducible assumption))
  | ((with_reducible refine' st_ixT ?h1 ?h2 ?_); (case h1 => kpt_turns); (case h2 => first | ((with_reducible apply at0); exact rfl) | ((with_reducible apply at1); exact rfl) | ((with_reducible apply at2); exact rfl) | with_reducible assumption))
  | ((with_reducible refine' st_ixP ?h1 ?h2 ?h3 ?h4 ?_); (case h1 => kpt_turns); (case h2 => (repeat constructor)); (case h3 => omega); (case h4 => (simp; omega)))
  | ((with_reducible refine' st_ixPT ?h1 ?h2 ?h3 ?h4 ?_); (case h1 => kpt_turns); (case h2 => (repeat constructor)); (case h3 => omega); (case h4 => (simp; omega)))
  | with_reducible refine st_tB ?_
  | with_reducible refine st_test ?_
  | with_reducible refine st_and ?_
  | with_reducible refine st_or ?_
  | with_reducible refine st_not ?_
  | with_reducible refine st_andV ?_
  | with_reducible refine st_orV ?_
  | with_reducible refine st_notV ?_
  | with_reducible refine st_chain ?_
  | with_reducible refine st_iT ?_
  | with_reducible refine st_iF ?_
  | with_reducible refine st_iNT ?_
  | with_reducible refine st_iNF ?_
  | with_reducible refine st_iRf ?_
  | with_reducible refine st_iNRf ?_
  | with_reducible refine st_asg ?_
  | ((with_reducible refine' st_parF ?e ?_); (case e => intro x y; (simp only [List.set_cons_zero, List.set_cons_succ]; exact rfl)))
  | with_reducible refine st_par2 ?_
  | with_reducible refine st_fst ?_
  | with_reducible refine st_jsE ?_
  | with_reducible refine st_js ?_
  | with_reducible refine st_fmt ?_
  | with_reducible refine st_joinK ?_
  | with_reducible refine st_strx ?_
  | ((with_reducible refine' st_par3F ?e ?_); (case e => intro x y z; (simp only [List.set_cons_zero, List.set_cons_succ]; exact rfl)))
  | with_reducible refine st_par3 ?_
  | ((with_reducible refine' st_augF ?h ?e ?_); (case h => exact rfl); (case e => intro x; (simp only [List.set_cons_zero, List.set_cons_succ]; exact rfl)))
  | with_reducible refine st_ipI ?_
  | with_reducible refine st_drop ?_
  | with_reducible refine st_next ?_
  | with_reducible refine st_un ?_
  | with_reducible refine st_U ?_
  | ((with_reducible refine' st_gNF ?e ?_); (case e => (simp only [List.set_cons_zero, List.set_cons_succ]; exact rfl)))
  | with_reducible refine st_gN ?_
  | ((with_reducible refine' st_gT ?h1 ?h2 ?_); (case h1 => kpt_turns); (case h2 => exact rfl))
  | with_reducible refine st_gC ?_
  | with_reducible refine st_gE ?_
  | with_reducible refine st_gS ?_
  | ((with_reducible refine' st_setL ?h1 ?h2 ?_); (case h1 => lcg_off); (case h2 => exact rfl))
  | with_reducible refine st_lst ?_
  | with_reducible refine st_tup ?_
  | ((with_reducible refine st_new ?h ?_); (case h => (simp; done)))
  | with_reducible refine st_callN ?_
  | with_reducible refine st_bm ?_
  | with_reducible refine st_bm0 ?_
  | ((with_reducible refine' st_tyL ?h ?_); (case h => kpt_turns))
  | ((with_reducible refine st_eq ?h ?_); (case h => exact rfl))
  | ((with_reducible refine st_ne ?h ?_); (case h => exact rfl))
  | with_reducible refine st_i1 ?_
  | with_reducible refine st_i2 ?_
  | with_reducible refine st_int ?_
  | with_reducible refine st_intb ?_
  | ((with_reducible refine' st_lenQ ?h ?_); (case h => kpt_turns))
  | ((with_reducible refine' st_lenQT ?h ?_); (case h => kpt_turns))
  | with_reducible refine st_yes ?_
  | with_reducible refine st_brk ?_
  | with_reducible refine st_cont ?_
  | with_reducible refine st_retN ?_
  | with_reducible refine st_forI ?_
  | with_reducible refine st_lcI ?_
  | with_reducible refine st_itL ?_
  | with_reducible refine st_itT ?_
  | with_reducible refine st_rng1 ?_
  | with_reducible refine st_rng2 ?_
  | with_reducible refine st_ref ?_
  | with_reducible refine st_sl ?_
  | with_reducible refine st_pN ?_
  | with_reducible refine st_pS ?_
  | with_reducible refine st_pI ?_
  | (refine ⟨rfl, ?_⟩)
  | with_reducible refine st_ifE ?_
  | with_reducible refine st_ifS ?_)
local macro_rules | `(tactic| kpf_close) => `(tactic| first
  | cell_call
  | refine st_iD (fun _ => ?_) (fun _ => ?_)
  | refine st_iND (fun _ => ?_) (fun _ => ?_)
  | refine st_iNB (fun _ => ?_) (fun _ => ?_)
  | refine st_iB (fun _ => ?_) (fun _ => ?_))
local macro_rules | `(tactic| k_places) => `(tactic| first
  | with_reducible refine isi_non_bool ?_
  | with_reducible refine isi_non_int ?_
  | with_reducible refine isi_non_str ?_
  | with_reducible refine isi_non_list ?_
  | with_reducible refine isi_non_tuple ?_
  | with_reducible refine isi_bl_bool ?_
  | with_reducible refine isi_bl_int ?_
  | with_reducible refine isi_bl_str ?_
  | with_reducible refine isi_bl_list ?_
  | with_reducible refine isi_bl_tuple ?_
  | with_reducible refine isi_int_bool ?_
  | with_reducible refine isi_int_int ?_
  | with_reducible refine isi_int_str ?_
  | with_reducible refine isi_int_list ?_
  | with_reducible refine isi_int_tuple ?_
  | with_reducible refine isi_str_bool ?_
  | with_reducible refine isi_str_int ?_
  | with_reducible refine isi_str_str ?_
  | with_reducible refine isi_str_list ?_
  | with_reducible refine isi_str_tuple ?_
  | ((with_reducible refine' isi_list_bool ?h ?_); (case h => kpt_turns))
  | ((with_reducible refine' isi_list_int ?h ?_); (case h => kpt_turns))
  | ((with_reducible refine' isi_list_str ?h ?_); (case h => kpt_turns))
  | ((with_reducible refine' isi_list_list ?h ?_); (case h => kpt_turns))
  | ((with_reducible refine' isi_list_tuple ?h ?_); (case h => kpt_turns))
  | ((with_reducible refine' isi_tuple_bool ?h ?_); (case h => kpt_turns))
  | ((with_reducible refine' isi_tuple_int ?h ?_); (case h => kpt_turns))
  | ((with_reducible refine' isi_tuple_str ?h ?_); (case h => kpt_turns))
  | ((with_reducible refine' isi_tuple_list ?h ?_); (case h => kpt_turns))
  | ((with_reducible refine' isi_tuple_tuple ?h ?_); (case h => kpt_turns)))
local macro_rules | `(tactic| cell_call) => `(tactic| first
  | with_reducible refine st_zip ?_)
local macro_rules | `(tactic| k_ownIn) => `(tactic| first
  | with_reducible refine st_zip ?_)
local macro_rules | `(tactic| cell_call) => `(tactic| first
  | with_reducible refine st_disp ?_
  | with_reducible refine st_pr ?_
  | with_reducible refine st_prE ?_
  | with_reducible refine st_dget ?_
  | with_reducible refine st_dput ?_
  | with_reducible refine st_daug ?_
  | ((with_reducible refine' st_bgG ?h ?_); (case h => lcg_off))
  | ((with_reducible refine' st_bgL ?h ?_); (case h => lcg_off))
  | ((with_reducible refine' st_bgT ?h ?_); (case h => lcg_off))
  | ((with_reducible refine' st_bgF ?h ?_); (case h => lcg_off))
  | ((with_reducible refine' st_bpL ?h ?_); (case h => lcg_off)))
local macro_rules | `(tactic| k_ownIn) => `(tactic| first
  | with_reducible refine st_disp ?_
  | with_reducible refine st_pr ?_
  | with_reducible refine st_prE ?_
  | with_reducible refine st_dget ?_
  | with_reducible refine st_dput ?_
  | with_reducible refine st_daug ?_
  | ((with_reducible refine' st_bgG ?h ?_); (case h => lcg_off))
  | ((with_reducible refine' st_bgL ?h ?_); (case h => lcg_off))
  | ((with_reducible refine' st_bgT ?h ?_); (case h => lcg_off))
  | ((with_reducible refine' st_bgF ?h ?_); (case h => lcg_off))
  | ((with_reducible refine' st_bpL ?h ?_); (case h => lcg_off)))
local macro_rules | `(tactic| cell_call) => `(tactic| first
  | with_reducible refine st_veI ?_
  | with_reducible refine st_ost ?_
  | with_reducible refine st_mko ?_
  | with_reducible refine st_xv ?_
  | with_reducible refine st_lrg ?_
  | with_reducible refine st_callS ?_
  | with_reducible refine st_rg2 ?_
  | with_reducible refine st_rgE ?_)
local macro_rules | `(tactic| k_ownIn) => `(tactic| first
  | with_reducible refine st_veI ?_
  | with_reducible refine st_ost ?_
  | with_reducible refine st_mko ?_
  | with_reducible refine st_xv ?_
  | with_reducible refine st_lrg ?_
  | with_reducible refine st_callS ?_
  | with_reducible refine st_rg2 ?_
  | with_reducible refine st_rgE ?_)
local macro_rules | `(tactic| cell_call) => `(tactic| first
  | with_reducible refine st_inC ?_
  | with_reducible refine st_itS ?_
  | with_reducible refine st_itS1 ?_)
local macro_rules | `(tactic| k_ownIn) => `(tactic| first
  | with_reducible refine st_inC ?_
  | with_reducible refine st_itS ?_
  | with_reducible refine st_itS1 ?_)
local macro_rules | `(tactic| cell_call) => `(tactic| first
  | with_reducible refine st_frz ?_
  | with_reducible refine st_itI ?_
  | with_reducible refine st_dg2 ?_
  | with_reducible refine st_dput ?_
  | with_reducible refine st_scI ?_)
local macro_rules | `(tactic| cell_call) => `(tactic| first
  | with_reducible refine st_revI ?_)
local macro_rules | `(tactic| k_ownIn) => `(tactic| first
  | with_reducible refine st_revI ?_)
local macro_rules | `(tactic| cell_call) => `(tactic| first
  | with_reducible refine st_frzA ?_
  | with_reducible refine st_itK ?_)
local macro_rules | `(tactic| k_ownIn) => `(tactic| first
  | with_reducible refine st_frzA ?_
  | with_reducible refine st_itK ?_)
section
variable {P : Program} {w : World} {K : PySem.W.Frag} {mg : Str → Option Value} {base : Heap}
def sp_law_needs (K : PySem.W.Frag) : Sp := fun vs H Q _ => ∃ (A L : Addr) (ns : List Int), vs = [.ref A, .ref L] ∧ SqL K H A (msk.map V.int) ∧ SqL K H L (ns.map V.int) ∧ ns.length ≤ 3000 ∧
  ∀ p es H', H p = none → Same H H' → H' p = some (.lst (es.map V.int)) → NE es (ndL ns 12) → Q (.ref p) H'
theorem ndL_succ (ns : List Int) (i : Nat) : ndL ns (i + 1) = ndL ns i ++ [((ndR (srt (sms ns)) ns.sum i).length : Int)] := by
  unfold ndL
  have z : rgN (i + 1) = rgN i ++ [(i : Int)] := by
    unfold rgN
    rw [List.range_succ, List.map_append]
    rfl
  rw [z, List.map_append]
  rfl
/-- what the search says of a distance with years -/
theorem need_at {ns : List Int} {r e : Int} (r0 : 0 ≤ r) (r1 : r < 12) (hn : yrs (srt (sms ns)) r ≠ []) (h : Ext (stp (bL (yrs (srt (sms ns)) r))) (bL (yrs [0, ns.sum] r)) (bL (yrs (srt (sms ns)) r)) e) :
    0 ≤ e ∧ e ≤ 3 ∧ (e ≠ 3 → e = ((ndR (srt (sms ns)) ns.sum r).length : Int)) ∧ (e = 3 → 3 ≤ ((ndR (srt (sms ns)) ns.sum r).length : Int)) := by
  have z := ext_ok (r := (yrs (srt (sms ns)) r).headD 0 % 4) hn ⟨_, headD_mem hn, rfl⟩ (fun o ho => by
    rw [mem_yrs r0 r1] at ho ⊢
    simp only [List.mem_cons, List.not_mem_nil, or_false] at ho
    rcases ho with e | e
    · rw [e]
      exact mem_srt.mpr (sms_zero ns)
    · rw [e]
      exact mem_srt.mpr (List.mem_of_getLast? (sms_last ns))) (pres_le _ _) h
  unfold ndR
  rw [if_neg hn]
  exact ⟨z.1, z.2.1, z.2.2.1, fun y => by have := z.2.2.2 y; omega⟩
theorem ok_law_needs (T : Txt K mg) : FnOk P w K mg base CX0 3 (He.ga K "_law_needs") T.fd_law_needs ["masks", "moves"] (sp_law_needs K) := by
  refine T.F_law_needs.ok sc_law_needs (fun vs H Q E h => ?_) (fun cdv A outer s H vs Q E hr h => ?_)
  · obtain ⟨A, L, ns, rfl, _⟩ := h
    rfl
  · obtain ⟨A, L, ns, rfl, hA, hL, hl, q⟩ := h
    refine ⟨_, PSs.nox (pss_cons (ps_par3 (i := 2) (j := 3) (l := 4) (by rfl) sc_law_needs.nd rfl rfl rfl (by decide) (by decide) (by decide) rfl rfl rfl (pa_cons (pe_call (ok_law_sums T) (hr.mono (by decide)) rfl T.g_law_sums T.F_law_sums.kp (b_law_sums T) .nil pass0 (pa_cons (pv 1) pa_nil)) (pa_cons (pe_callB (show CallR _ _ (rSum K) from (cr_sum rfl)) (by rfl) T.b_sum (by decide +kernel) (pa_cons (pv 1) pa_nil)) (pa_cons (pe_lst pa_nil) pa_nil))) (by rfl))
      (pss_cons (ps_for PassesOwn.never rfl (pi_range1 (by rfl) T.b_range (pa_cons pe_int pa_nil)) (pg_name (i := 5) sc_law_needs.nd rfl (Or.inr rfl)) (pss_cons (ps_setLc (i := 6) (own := [("number", 8)]) (g := gName 8) rfl sc_law_needs.nd rfl rfl (sw_true rfl rfl rfl (by decide +kernel)) (show PI _ _ _ (iList K _) from pi_list (pv 2)) (blkOk_by (N := N_law_needs) (sc := defScope s_law_needs) (by decide +kernel)) (fun _ _ _ _ _ => (pg_name (i := 8) sc_law_needs.nd rfl (Or.inl rfl))) (fun _ _ _ _ _ => (pts_one (pt_cmpR op_eqI (pe_op op_mod (pv 8) pe_int) (pv 5) (nomark _)))) (fun _ _ _ _ _ => (pe_op op_fdiv (pv 8) pe_int)))
      (pss_cons (ps_setLc (i := 7) (own := [("number", 8)]) (g := gName 8) rfl sc_law_needs.nd rfl rfl (sw_true rfl rfl rfl (by decide +kernel)) (show PI _ _ _ (iList K _) from pi_list (pe_lst (pa_cons pe_int (pa_cons (pv 3) pa_nil)))) (blkOk_by (N := N_law_needs) (sc := defScope s_law_needs) (by decide +kernel)) (fun _ _ _ _ _ => (pg_name (i := 8) sc_law_needs.nd rfl (Or.inl rfl))) (fun _ _ _ _ _ => (pts_one (pt_cmpR op_eqI (pe_op op_mod (pv 8) pe_int) (pv 5) (nomark _)))) (fun _ _ _ _ _ => (pe_op op_fdiv (pv 8) pe_int)))
      (pss_one (ps_expr (show PE _ _ (tBM K _ _ _ _) from pe_bm PySem.F.plainAttrs_list PySem.F.slot_list_append PySem.F.type_list_append mt_append (pv 4) (pa_cons (pe_ifExp (pt_cmpR (show OpR _ _ (rNeD K) from (op_neD hr.units)) (pv 6) (pe_lst pa_nil) (nomark _)) (pe_call (ok_law_extra T) (hr.mono (by decide)) rfl T.g_law_extra T.F_law_extra.kp (b_law_extra T) .nil pass0 (pa_cons (pv 0) (pa_cons (pe_call (ok_law_joined T) (hr.mono (by decide)) rfl T.g_law_joined T.F_law_joined.kp (b_law_joined T) .nil pass0 (pa_cons (pv 0) (pa_cons (pv 6) pa_nil))) (pa_cons (pv 7) pa_nil)))) pe_int) pa_nil)))))))
      (pss_one (ps_ret (pv 4))))), ?_⟩
    rw [start_law_needs]
    repeat cell_call
    refine ⟨L, ns, rfl, hL, hl, fun S H1 nS sm1 hS => ?_⟩
    have hL1 := sm1.seq hL
    clear nS
    repeat cell_call
    refine ⟨L, ns, rfl, hL1, ?_⟩
    repeat cell_call
    intro F nF
    have nF0 := same_free nF sm1
    have hS2 := hp_ne (o' := .lst []) (ne_of_none hS nF) hS
    have eSF := ne_of_none hS nF
    have hF : (upd H1 F (.lst [])) F = some (.lst []) := upd_same
    have sm2 : Same H (upd H1 F (.lst [])) := same_trN nF sm1
    generalize upd H1 F (.lst []) = H2 at *
    clear nF sm1 hL1 hS
    have sl := srt_len (sms ns)
    rw [sms_len] at sl
    repeat cell_call
    refine ⟨by omega, by omega, fR (fun i σ' H' => Same H H' ∧ H' S = some (.lst ((srt (sms ns)).map V.int)) ∧ (∃ es : List Int, H' F = some (.lst (es.map V.int)) ∧ NE es (ndL ns i)) ∧ ∃ a b c d, σ' = [some (.ref A), some (.ref L), some (.ref S), some (.int ns.sum), some (.ref F), a, b, c, d]) ⟨sm2, hS2, ⟨[], hF, .nil⟩, none, none, none, none, rfl⟩ (fun i σ1 H3 hi e => ?_) (fun σ1 H3 e => ?_)⟩
    · clear sm2 hS2 hF
      obtain ⟨sm, hS, ⟨es, hF, ne⟩, a, b, c, d, rfl⟩ := e
      have hi2 : i < 12 := hi
      have el := ne.len
      rw [show (ndL ns i).length = i by unfold ndL rgN; rw [List.length_map, List.length_map, List.length_range]] at el
      rw [Int.zero_add]
      repeat cell_call
      refine ⟨⟨_, SqL.of hS⟩, fun C nC => ?_⟩
      refine lcFM (fun n => decide (n % 12 = (i : Int))) (fun n => n / 12) (SqL.of hS) nC (by omega) (fun k H' R RF _ sm2 hy hn => ?_) (fun H4 sm4 hC => ?_)
      · repeat cell_call
        refine st_iD (fun h1 => ?_) (fun h1 => ?_)
        · repeat cell_call
          exact hy (decide_eq_true h1) _ (Same.refl _)
        · exact hn (decide_eq_false h1) _ (Same.refl _)
      replace hC : H4 C = some (.lst ((yrs (srt (sms ns)) i).map V.int)) := hC
      have hS4 := sm4 _ _ hS
      have hF4 := sm4 _ _ hF
      have smA := same_tr sm4 sm
      clear nC sm sm4 hS hF
      repeat cell_call
      intro B nB
      have hB : (upd H4 B (.lst [.int 0, .int ns.sum])) B = some (.lst (([0, ns.sum] : List Int).map V.int)) := upd_same
      have hC5 := hp_ne (o' := .lst [.int 0, .int ns.sum]) (ne_of_none hC nB) hC
      have hS5 := hp_ne (o' := .lst [.int 0, .int ns.sum]) (ne_of_none hS4 nB) hS4
      have hF5 := hp_ne (o' := .lst [.int 0, .int ns.sum]) (ne_of_none hF4 nB) hF4
      have smB : Same H (upd H4 B (.lst [.int 0, .int ns.sum])) := same_trN nB smA
      generalize upd H4 B (.lst [.int 0, .int ns.sum]) = H5 at *
      clear nB hC hS4 hF4 smA
      repeat cell_call
      refine ⟨⟨_, SqL.of hB⟩, fun D nD => ?_⟩
      refine lcFM (fun n => decide (n % 12 = (i : Int))) (fun n => n / 12) (SqL.of hB) nD (by show 2 ≤ 100000; decide) (fun k H' R RF _ sm2 hy hn => ?_) (fun H6 sm6 hD => ?_)
      · repeat cell_call
        refine st_iD (fun h1 => ?_) (fun h1 => ?_)
        · repeat cell_call
          exact hy (decide_eq_true h1) _ (Same.refl _)
        · exact hn (decide_eq_false h1) _ (Same.refl _)
      replace hD : H6 D = some (.lst ((yrs [0, ns.sum] i).map V.int)) := hD
      have hC6 := sm6 _ _ hC5
      have hS6 := sm6 _ _ hS5
      have hF6 := sm6 _ _ hF5
      have smC := same_tr sm6 smB
      clear nD sm6 smB hC5 hS5 hF5 hB
      repeat cell_call
      intro Z nZ
      have hD7 := hp_ne (o' := .lst []) (ne_of_none hD nZ) hD
      have hC7 := hp_ne (o' := .lst []) (ne_of_none hC6 nZ) hC6
      have hS7 := hp_ne (o' := .lst []) (ne_of_none hS6 nZ) hS6
      have hF7 := hp_ne (o' := .lst []) (ne_of_none hF6 nZ) hF6
      have hZ : (upd H6 Z (.lst [])) Z = some (.lst []) := upd_same
      have smD : Same H (upd H6 Z (.lst [])) := same_trN nZ smC
      generalize upd H6 Z (.lst []) = H7 at *
      clear nZ hD hC6 hS6 hF6 smC
      refine st_neI (ms := []) (SqL.of hC7) (SqL.of hZ) ?_
      clear hZ
      have hA7 := smD.seq hA
      have nda := fun e => need_at (ns := ns) (r := i) (e := e) (by omega) (by omega)
      repeat cell_call
      refine st_iND (fun h1 => ?_) (fun h1 => ?_)
      · repeat cell_call
        refine ⟨A, C, _, rfl, hA7, SqL.of hC7, ?_⟩
        repeat cell_call
        refine ⟨A, D, _, _, rfl, hA7, SqL.of hD7, fun e H8 sm8 hx => ?_⟩
        obtain ⟨e0, e1, e2, e3⟩ := nda e h1 hx
        repeat cell_call
        refine st_app (sm8 _ _ hF7) (by rw [List.length_map]; omega) ?_
        refine ⟨same_trU nF0 (same_tr sm8 smD), hp_ne eSF (sm8 _ _ hS7), ⟨es ++ [e], ?_, ?_⟩, _, _, _, _, rfl⟩
        · rw [upd_same, List.map_append]
          rfl
        · rw [ndL_succ]
          exact ne.snoc e0 e1 e2 e3
      · repeat cell_call
        refine st_app hF7 (by rw [List.length_map]; omega) ?_
        refine ⟨same_trU nF0 smD, hp_ne eSF hS7, ⟨es ++ [0], ?_, ?_⟩, _, _, _, _, rfl⟩
        · rw [upd_same, List.map_append]
          rfl
        · rw [ndL_succ]
          have e : (ndR (srt (sms ns)) ns.sum i).length = 0 := by
            unfold ndR
            rw [if_pos h1]
            rfl
          rw [e]
          exact ne.snoc (by omega) (by omega) (fun _ => rfl) (fun z => by omega)
    · obtain ⟨sm, hS, ⟨es, hF, ne⟩, a, b, c, d, rfl⟩ := e
      repeat cell_call
      exact q F es _ nF0 sm hF ne

end
end Mc
namespace Mc
open PySem PySem.Spec PyProof.Rows L2
local macro_rules | `(tactic| lcg_src) => `(tactic| first
  | with_reducible assumption
  | ((with_reducible apply Ne.symm); with_reducible assumption)
  | ((with_reducible apply ne_nf); (with_reducible assumption); lcg_off)
  | ((with_reducible apply Ne.symm); (with_reducible apply ne_nf); (with_reducible assumption); lcg_off))
local macro_rules | `(tactic| lcg_off) => `(tactic| first
  | with_reducible assumption
  | (with_reducible exact upd_same)
  | ((with_reducible apply hp_ne); lcg_src; lcg_off)
  | ((with_reducible apply hp_same); (with_reducible assumption); lcg_off)
  | ((with_reducible apply hp_frm); (with_reducible assumption); lcg_src; lcg_off)
  | ((with_reducible apply hp_frm2); (with_reducible assumption); lcg_src; lcg_src; lcg_off)
  | assumption)
local macro_rules | `(tactic| kpt_turns) => `(tactic| first
  | with_reducible assumption
  | ((with_reducible apply SqL.of); lcg_off)
  | ((with_reducible apply SqT.of); lcg_off)
  | ((with_reducible apply Frm.seq); (with_reducible assumption); lcg_src; kpt_turns)
  | ((with_reducible apply Frm.tup); (with_reducible assumption); lcg_src; kpt_turns)
  | ((with_reducible apply Frm2.seq); (with_reducible assumption); lcg_src; lcg_src; kpt_turns)
  | ((with_reducible apply Frm2.tup); (with_reducible assumption); lcg_src; lcg_src; kpt_turns)
  | ((with_reducible apply L2.Same.seq); (with_reducible assumption); kpt_turns)
  | ((with_reducible apply Same.tup); (with_reducible assumption); kpt_turns)
  | assumption)
local macro_rules | `(tactic| k_memK) => `(tactic| first
  | with_reducible exact Frm.refl _
  | with_reducible assumption
  | ((with_reducible apply Frm.trN); (with_reducible assumption); k_memK)
  | ((with_reducible apply Frm.trU); k_memK)
  | ((with_reducible apply Frm.trM); (with_reducible assumption); k_memK)
  | ((with_reducible apply Frm.tr); (with_reducible assumption); k_memK)
  | ((with_reducible apply Frm.trS); (with_reducible assumption); k_memK)
  | with_reducible exact Frm2.refl _
  | ((with_reducible apply Frm2.trN); (with_reducible assumption); k_memK)
  | ((with_reducible apply Frm2.trU); k_memK)
  | ((with_reducible apply Frm2.trV); k_memK)
  | ((with_reducible apply Frm2.trM); (with_reducible assumption); k_memK)
  | ((with_reducible apply Frm2.tr); (with_reducible assumption); k_memK)
  | ((with_reducible apply Frm2.trS); (with_reducible assumption); k_memK))
local macro_rules | `(tactic| k_allIn) => `(tactic| first
  | with_reducible exact L2.Same.refl _
  | with_reducible assumption
  | ((with_reducible apply same_trN); (with_reducible assumption); k_allIn)
  | ((with_reducible apply same_trU); (with_reducible assumption); k_allIn)
  | ((with_reducible apply same_tr); (with_reducible assumption); k_allIn))
local macro_rules | `(tactic| k_ownIn) => `(tactic| first
  | with_reducible refine st_seq ?_
  | ((with_reducible refine' st_setF ?e ?_); (case e => intro x; (simp only [List.set_cons_zero, List.set_cons_succ]; exact rfl)))
  | with_reducible refine st_c ?_
  | ((with_reducible refine' st_var ?h ?_); (case h => exact rfl))
  | with_reducible refine st_op ?_
  | with_reducible refine st_I0 ?_
  | ((with_reducible refine' st_powL ?c ?e ?_); (case c => exact ⟨by decide, by decide, by decide⟩); (case e => (simp only [Int.reduceToNat, Int.reducePow]; exact rfl)))
  | ((with_reducible refine st_I ?h ?_); (case h => first | with_reducible assumption | (show (0 : Int) < _; omega) | exact ⟨by omega, by omega⟩ | exact .inl ⟨by omega, by omega⟩ | exact .inr ⟨by omega, by omega⟩ | exact ⟨by omega, by omega, by omega⟩))
  | with_reducible refine st_nil ?_
  | with_reducible refine st_cons ?_
  | with_reducible refine st_ret ?_
  | with_reducible refine st_call ?_
  | with_reducible refine st_cb ?_
  | with_reducible refine st_exb ?_
  | ((with_reducible refine' st_ixL ?h1 ?h2 ?_); (case h1 => kpt_turns); (case h2 => first | ((with_reducible apply at0); exact rfl) | ((with_reducible apply at1); exact rfl) | ((with_reducible apply at2); exact rfl) | ((with_reducible apply at3); exact rfl) | with_reducible assumption))
  | ((with_reducible refine' st_ixT ?h1 ?h2 ?_); (case h1 => kpt_turns); (case h2 => first | ((with_reducible apply at0); exact rfl) | ((with_reducible apply at1); exact rfl) | ((with_reducible apply at2); exact rfl) | with_reducible assumption))
  | ((with_reducible refine' st_ixP ?h1 ?h2 ?h3 ?h4 ?_); (case h1 => kpt_turns); (case h2 => (repeat constructor)); (case h3 => omega); (case h4 => (simp; omega)))
  | ((with_reducible refine' st_ixPT ?h1 ?h2 ?h3 ?h4 ?_); (case h1 => kpt_turns); (case h2 => (repeat constructor)); (case h3 => omega); (case h4 => (simp; omega)))
  | with_reducible refine st_tB ?_
  | with_reducible refine st_test ?_
  | with_reducible refine st_and ?_
  | with_reducible refine st_or ?_
  | with_reducible refine st_not ?_
  | with_reducible refine st_andV ?_
  | with_reducible refine st_orV ?_
  | with_reducible refine st_notV ?_
  | with_reducible refine st_chain ?_
  | with_reducible refine st_iT ?_
  | with_reducible refine st_iF ?_
  | with_reducible refine st_iNT ?_
  | with_reducible refine st_iNF ?_
  | with_reducible refine st_iRf ?_
  | with_reducible refine st_iNRf ?_
  | with_reducible refine st_asg ?_
  | ((with_reducible refine' st_parF ?e ?_); (case e => intro x y; (simp only [List.set_cons_zero, List.set_cons_succ]; exact rfl)))
  | with_reducible refine st_par2 ?_
  | with_reducible refine st_fst ?_
  | with_reducible refine st_jsE ?_
  | with_reducible refine st_js ?_
  | with_reducible refine st_fmt ?_
  | with_reducible refine st_joinK ?_
  | with_reducible refine st_strx ?_
  | ((with_reducible refine' st_par3F ?e ?_); (case e => intro x y z; (simp only [List.set_cons_zero, List.set_cons_succ]; exact rfl)))
  | with_reducible refine st_par3 ?_
  | ((with_reducible refine' st_augF ?h ?e ?_); (case h => exact rfl); (case e => intro x; (simp only [List.set_cons_zero, List.set_cons_succ]; exact rfl)))
  | with_reducible refine st_ipI ?_
  | with_reducible refine st_drop ?_
  | with_reducible refine st_next ?_
  | with_reducible refine st_un ?_
  | with_reducible refine st_U ?_
  | ((with_reducible refine' st_gNF ?e ?_); (case e => (simp only [List.set_cons_zero, List.set_cons_succ]; exact rfl)))
  | with_reducible refine st_gN ?_
  | ((with_reducible refine' st_gT ?h1 ?h2 ?_); (case h1 => kpt_turns); (case h2 => exact rfl))
  | with_reducible refine st_gC ?_
  | with_reducible refine st_gE ?_
  | with_reducible refine st_gS ?_
  | ((with_reducible refine' st_setL ?h1 ?h2 ?_); (case h1 => lcg_off); (case h2 => exact rfl))
  | with_reducible refine st_lst ?_
  | with_reducible refine st_tup ?_
  | ((with_reducible refine st_new ?h ?_); (case h => (simp; done)))
  | with_reducible refine st_callN ?_
  | with_reducible refine st_bm ?_
  | with_reducible refine st_bm0 ?_
  | ((with_reducible refine' st_tyL ?h ?_); (case h => kpt_turns))
  | ((with_reducible refine st_eq ?h ?_); (case h => exact rfl))
  | ((with_reducible refine st_ne ?h ?_); (case h => exact rfl))
  | with_reducible refine st_i1 ?_
  | with_reducible refine st_i2 ?_
  | with_reducible refine st_int ?_
  | with_reducible refine st_intb ?_
  | ((with_reducible refine' st_lenQ ?h ?_); (case h => kpt_turns))
  | ((with_reducible refine' st_lenQT ?h ?_); (case h => kpt_turns))
  | with_reducible refine st_yes ?_
  | with_reducible refine st_brk ?_
  | with_reducible refine st_cont ?_
  | with_reducible refine st_retN ?_
  | with_reducible refine st_forI ?_
  | with_reducible refine st_lcI ?_
  | with_reducible refine st_itL ?_
  | with_reducible refine st_itT ?_
  | with_reducible refine st_rng1 ?_
  | with_reducible refine st_rng2 ?_
  | with_reducible refine st_ref ?_
  | with_reducible refine st_sl ?_
  | with_reducible refine st_pN ?_
  | with_reducible refine st_pS ?_
  | with_reducible refine st_pI ?_
  | (refine ⟨rfl, ?_⟩))
local macro_rules | `(tactic| cell_call) => `(tactic| first
  | with_reducible refine st_seq ?_
  | ((with_reducible refine' st_setF ?e ?_); (case e => intro x; (simp only [List.set_cons_zero, List.set_cons_succ]; exact rfl)))
  | with_reducible refine st_c ?_
  | ((with_reducible refine' st_var ?h ?_); (case h => exact rfl))
  | with_reducible refine st_op ?_
  | with_reducible refine st_I0 ?_
  | ((with_reducible refine' st_powL ?c ?e ?_); (case c => exact ⟨by decide, by decide, by decide⟩); (case e => (simp only [Int.reduceToNat, Int.reducePow]; exact rfl)))
  | ((with_reducible refine st_I ?h ?_); (case h => first | with_reducible assumption | (show (0 : Int) < _; omega) | exact ⟨by omega, by omega⟩ | exact .inl ⟨by omega, by omega⟩ | exact .inr ⟨by omega, by omega⟩ | exact ⟨by omega, by omega, by omega⟩))
  | with_reducible refine st_nil ?_
  | with_reducible refine st_cons ?_
  | with_reducible refine st_ret ?_
  | with_reducible refine st_call ?_
  | with_reducible refine st_cb ?_
  | with_reducible refine st_exb ?_
  | ((with_reducible refine' st_ixL ?h1 ?h2 ?_); (case h1 => kpt_turns); (case h2 => first | ((with_reducible apply at0); exact rfl) | ((with_reducible apply at1); exact rfl) | ((with_reducible apply at2); exact rfl) | ((with_reducible apply at3); exact rfl) | with_reducible assumption))
  | ((with_reducible refine' st_ixT ?h1 ?h2 ?_); (case h1 => kpt_turns); (case h2 => first | ((with_reducible apply at0); exact rfl) | ((with_reducible apply at1); exact rfl) | ((with_reducible apply at2); exact rfl) | with_reducible assumption))
  | ((with_reducible refine' st_ixP ?h1 ?h2 ?h3 ?h4 ?_); (case h1 => kpt_turns); (case h2 => (repeat constructor)); (case h3 => omega); (case h4 => (simp; omega)))
  | ((with_reducible refine' st_ixPT ?h1 ?h2 ?h3 ?h4 ?_); (case h1 => kpt_turns); (case h2 => (repeat constructor)); (case h3 => omega); (case h4 => (simp; omega)))
  | with_reducible refine st_tB ?_
  | with_reducible refine st_test ?_
  | with_reducible refine st_and ?_
  | with_reducible refine st_or ?_
  | with_reducible refine st_not ?_
  | with_reducible refine st_andV ?_
  | with_reducible refine st_orV ?_
  | with_reducible refine st_notV ?_
  | with_reducible refine st_chain ?_
  | with_reducible refine st_iT ?_
  | with_reducible refine st_iF ?_
  | with_reducible refine st_iNT ?_
  | with_reducible refine st_iNF ?_
  | with_reducible refine st_iRf ?_
  | with_reducible refine st_iNRf ?_
  | with_reducible refine st_asg ?_
  | ((with_reducible refine' st_parF ?e ?_); (case e => intro x y; (simp only [List.set_cons_zero, List.set_cons_succ]; exact rfl)))
  | with_reducible refine st_par2 ?_
  | with_reducible refine st_fst ?_
  | with_reducible refine st_jsE ?_
  | with_reducible refine st_js ?_
  | with_reducible refine st_fmt ?_
  | with_reducible refine st_joinK ?_
  | with_reducible refine st_strx ?_
  | ((with_reducible refine' st_par3F ?e ?_); (case e => intro x y z; (simp only [List.set_cons_zero, List.set_cons_succ]; exact rfl)))
  | with_reducible refine st_par3 ?_
  | ((with_reducible refine' st_augF ?h ?e ?_); (case h => exact rfl); (case e => intro x; (simp only [List.set_cons_zero, List.set_cons_succ]; exact rfl)))
  | with_reducible refine st_ipI ?_
  | with_reducible refine st_drop ?_
  | with_reducible refine st_next ?_
  | with_reducible refine st_un ?_
  | with_reducible refine st_U ?_
  | ((with_reducible refine' st_gNF ?e ?_); (case e => (simp only [List.set_cons_zero, List.set_cons_succ]; exact rfl)))
  | with_reducible refine st_gN ?_
  | ((with_reducible refine' st_gT ?h1 ?h2 ?_); (case h1 => kpt_turns); (case h2 => exact rfl))
  | with_reducible refine st_gC ?_
  | with_reducible refine st_gE ?_
  | with_reducible refine st_gS ?_
  | ((with_reducible refine' st_setL ?h1 ?h2 ?_); (case h1 => lcg_off); (case h2 => exact rfl))
  | with_reducible refine st_lst ?_
  | with_reducible refine st_tup ?_
  | ((with_reducible refine st_new ?h ?_); (case h => (simp; done)))
  | with_reducible refine st_callN ?_
  | with_reducible refine st_bm ?_
  | with_reducible refine st_bm0 ?_
  | ((with_reducible refine' st_tyL ?h ?_); (case h => kpt_turns))
  | ((with_reducible refine st_eq ?h ?_); (case h => exact rfl))
  | ((with_reducible refine st_ne ?h ?_); (case h => exact rfl))
  | with_reducible refine st_i1 ?_
  | with_reducible refine st_i2 ?_
  | with_reducible refine st_int ?_
  | with_reducible refine st_intb ?_
  | ((with_reducible refine' st_lenQ ?h ?_); (case h => kpt_turns))
  | ((with_reducible refine' st_lenQT ?h ?_); (case h => kpt_turns))
  | with_reducible refine st_yes ?_
  | with_reducible refine st_brk ?_
  | with_reducible refine st_cont ?_
  | with_reducible refine st_retN ?_
  | with_reducible refine st_forI ?_
  | with_reducible refine st_lcI ?_
  | with_reducible refine st_itL ?_
  | with_reducible refine st_itT ?_
  | with_reducible refine st_rng1 ?_
  | with_reducible refine st_rng2 ?_
  | with_reducible refine st_ref ?_
  | with_reducible refine st_sl ?_
  | with_reducible refine st_pN ?_
  | with_reducible refine st_pS ?_
  | with_reducible refine st_pI ?_
  | (refine ⟨rfl, ?_⟩)
  | with_reducible refine st_ifE ?_
  | with_reducible refine st_ifS ?_)
local macro_rules | `(tactic| kpf_close) => `(tactic| first
  | cell_call
  | refine st_iD (fun _ => ?_) (fun _ => ?_)
  | refine st_iND (fun _ => ?_) (fun _ => ?_)
  | refine st_iNB (fun _ => ?_) (fun _ => ?_)
  | refine st_iB (fun _ => ?_) (fun _ => ?_))
local macro_rules | `(tactic| k_places) => `(tactic| first
  | with_reducible refine isi_non_bool ?_
  | with_reducible refine isi_non_int ?_
  | with_reducible refine isi_non_str ?_
  | with_reducible refine isi_non_list ?_
  | with_reducible refine isi_non_tuple ?_
  | with_reducible refine isi_bl_bool ?_
  | with_reducible refine isi_bl_int ?_
  | with_reducible refine isi_bl_str ?_
  | with_reducible refine isi_bl_list ?_
  | with_reducible refine isi_bl_tuple ?_
  | with_reducible refine isi_int_bool ?_
  | with_reducible refine isi_int_int ?_
  | with_reducible refine isi_int_str ?_
  | with_reducible refine isi_int_list ?_
  | with_reducible refine isi_int_tuple ?_
  | with_reducible refine isi_str_bool ?_
  | with_reducible refine isi_str_int ?_
  | with_reducible refine isi_str_str ?_
  | with_reducible refine isi_str_list ?_
  | with_reducible refine isi_str_tuple ?_
  | ((with_reducible refine' isi_list_bool ?h ?_); (case h => kpt_turns))
  | ((with_reducible refine' isi_list_int ?h ?_); (case h => kpt_turns))
  | ((with_reducible refine' isi_list_str ?h ?_); (case h => kpt_turns))
  | ((with_reducible refine' isi_list_list ?h ?_); (case h => kpt_turns))
  | ((with_reducible refine' isi_list_tuple ?h ?_); (case h => kpt_turns))
  | ((with_reducible refine' isi_tuple_bool ?h ?_); (case h => kpt_turns))
  | ((with_reducible refine' isi_tuple_int ?h ?_); (case h => kpt_turns))
  | ((with_reducible refine' isi_tuple_str ?h ?_); (case h => kpt_turns))
  | ((with_reducible refine' isi_tuple_list ?h ?_); (case h => kpt_turns))
  | ((with_reducible refine' isi_tuple_tuple ?h ?_); (case h => kpt_turns)))
local macro_rules | `(tactic| cell_call) => `(tactic| first
  | with_reducible refine st_zip ?_)
local macro_rules | `(tactic| k_ownIn) => `(tactic| first
  | with_reducible refine st_zip ?_)
local macro_rules | `(tactic| cell_call) => `(tactic| first
  | with_reducible refine st_disp ?_
  | with_reducible refine st_pr ?_
  | with_reducible refine st_prE ?_
  | with_reducible refine st_dget ?_
  | with_reducible refine st_dput ?_
  | with_reducible refine st_daug ?_
  | ((with_reducible refine' st_bgG ?h ?_); (case h => lcg_off))
  | ((with_reducible refine' st_bgL ?h ?_); (case h => lcg_off))
  | ((with_reducible refine' st_bgT ?h ?_); (case h => lcg_off))
  | ((with_reducible refine' st_bgF ?h ?_); (case h => lcg_off))
  | ((with_reducible refine' st_bpL ?h ?_); (case h => lcg_off)))
local macro_rules | `(tactic| k_ownIn) => `(tactic| first
  | with_reducible refine st_disp ?_
  | with_reducible refine st_pr ?_
  | with_reducible refine st_prE ?_
  | with_reducible refine st_dget ?_
  | with_reducible refine st_dput ?_
  | with_reducible refine st_daug ?_
  | ((with_reducible refine' st_bgG ?h ?_); (case h => lcg_off))
  | ((with_reducible refine' st_bgL ?h ?_); (case h => lcg_off))
  | ((with_reducible refine' st_bgT ?h ?_); (case h => lcg_off))
  | ((with_reducible refine' st_bgF ?h ?_); (case h => lcg_off))
  | ((with_reducible refine' st_bpL ?h ?_); (case h => lcg_off)))
local macro_rules | `(tactic| cell_call) => `(tactic| first
  | with_reducible refine st_veI ?_
  | with_reducible refine st_ost ?_
  | with_reducible refine st_mko ?_
  | with_reducible refine st_xv ?_
  | with_reducible refine st_lrg ?_
  | with_reducible refine st_callS ?_
  | with_reducible refine st_rg2 ?_
  | with_reducible refine st_rgE ?_)
local macro_rules | `(tactic| k_ownIn) => `(tactic| first
  | with_reducible refine st_veI ?_
  | with_reducible refine st_ost ?_
  | with_reducible refine st_mko ?_
  | with_reducible refine st_xv ?_
  | with_reducible refine st_lrg ?_
  | with_reducible refine st_callS ?_
  | with_reducible refine st_rg2 ?_
  | with_reducible refine st_rgE ?_)
local macro_rules | `(tactic| cell_call) => `(tactic| first
  | with_reducible refine st_inC ?_
  | with_reducible refine st_itS ?_
  | with_reducible refine st_itS1 ?_)
local macro_rules | `(tactic| k_ownIn) => `(tactic| first
  | with_reducible refine st_inC ?_
  | with_reducible refine st_itS ?_
  | with_reducible refine st_itS1 ?_)
local macro_rules | `(tactic| cell_call) => `(tactic| first
  | with_reducible refine st_frz ?_
  | with_reducible refine st_itI ?_
  | with_reducible refine st_dg2 ?_
  | with_reducible refine st_dput ?_
  | with_reducible refine st_scI ?_)
local macro_rules | `(tactic| cell_call) => `(tactic| first
  | with_reducible refine st_revI ?_)
local macro_rules | `(tactic| k_ownIn) => `(tactic| first
  | with_reducible refine st_revI ?_)
local macro_rules | `(tactic| cell_call) => `(tactic| first
  | with_reducible refine st_frzA ?_
  | with_reducible refine st_itK ?_)
local macro_rules | `(tactic| k_ownIn) => `(tactic| first
  | with_reducible refine st_frzA ?_
  | with_reducible refine st_itK ?_)
section
variable {P : Program} {w : World} {K : PySem.W.Frag} {mg : Str → Option Value} {base : Heap}
theorem sum_b2 {b : Int} : ∀ {ns : List Int}, (∀ k ∈ ns, -b ≤ k ∧ k ≤ b) → -(b * ns.length) ≤ ns.sum ∧ ns.sum ≤ b * ns.length
  | [], _ => by simp
  | n :: ns, h => by
    have a := h n (List.mem_cons_self ..)
    have c := sum_b2 (ns := ns) fun k hk => h k (List.mem_cons_of_mem _ hk)
    rw [List.sum_cons, List.length_cons, Int.natCast_add, Int.mul_add]
    simp only [Int.natCast_one, Int.mul_one] at *
    omega
def Mv (ns : List Int) : Prop := ns.length ≤ 10 ∧ ∀ k ∈ ns, k.natAbs < 2 ^ 200
theorem tx_mv {ns : List Int} (h : Mv ns) : Tx (.list (ns.map PyData.int)) 700000 := (Tx.list (Tx.ints (b := 200) (by decide) (by decide) ns h.2)).mono (by have := h.1; omega)
theorem dep_mv (ns : List Int) : (PyData.list (ns.map PyData.int)).depth ≤ 60 := Nat.le_trans (Sm.list (Sm.ints ns)).2.1 (by decide)
theorem ndR_bd (V : List Int) (T r : Int) : (ndR V T r).length ≤ 50 := by
  unfold ndR
  split
  · exact Nat.zero_le _
  · exact missY_le (Int.emod_nonneg _ (by decide)) (Int.emod_lt_of_pos _ (by decide))
theorem sum_bd {f : Int → Int} (h : ∀ r, 0 ≤ f r ∧ f r ≤ 50) : ∀ l : List Int, 0 ≤ (l.map f).sum ∧ (l.map f).sum ≤ 50 * (l.length : Int)
  | [] => ⟨Int.le_refl _, Int.le_refl _⟩
  | r :: l => by
    have a := sum_bd h l
    have b := h r
    rw [List.map_cons, List.sum_cons, List.length_cons]
    omega
theorem fw_bd (ns : List Int) : (fw ns).natAbs < 2 ^ 200 := by
  have b := sum_bd (f := fun r => ((ndR (srt (sms ns)) ns.sum r).length : Int)) (fun r => ⟨by omega, by have := ndR_bd (srt (sms ns)) ns.sum r; show ((ndR (srt (sms ns)) ns.sum r).length : Int) ≤ 50; omega⟩) (rgN 12)
  have l : ((rgN 12).length : Int) = 12 := rfl
  rw [l] at b
  have p : (1000 : Nat) < 2 ^ 200 := by decide
  unfold fw
  split <;> omega
theorem mv_two (ns : List Int) : Mv [fw ns, fw ns] := ⟨by show 2 ≤ 10; omega, fun k hk => by
  simp only [List.mem_cons, List.not_mem_nil, or_false, or_self] at hk
  rw [hk]
  exact fw_bd ns⟩
theorem st_inI {K : PySem.W.Frag} {H : Hp} {Q : VK} {p : Addr} {k : Int} {ns : List Int} (h : SqL K H p (ns.map V.int)) (q : Q (.bl (decide (k ∈ ns))) H) : rIn K false (.int k) (.ref p) H Q :=
  st_in (.inl h) rfl (by rw [List.all_map]; exact List.all_eq_true.mpr fun _ _ => rfl) (by rw [in_int]; exact q)
theorem fw_0 : fw [] = 0 := by decide +kernel
theorem fw_00 : fw [0, 0] = 0 := by decide +kernel
theorem fw_1 : fw [4800] = 1 := by decide +kernel
theorem fw_2 : fw [4800, -4800] = 0 := by decide +kernel
theorem few_1 : ((ndL [1000000000000000000000000000000] 12).all fun d => decide (d ≤ 2)) = true := by decide +kernel
theorem few_2 : ((ndL [1000000000000000000000000000000, 0 - 1000000000000000000000000000000] 12).all fun d => decide (d ≤ 2)) = true := by decide +kernel
theorem few_3 : ((ndL [0 - 1000000000000000000000000000000, 5, 1000000000000000000000000000000] 12).all fun d => decide (d ≤ 2)) = true := by decide +kernel
theorem few_of {l : List Int} (h : (l.all fun d => decide (d ≤ 2)) = true) : ∀ d ∈ l, d ≤ 2 := fun d hd => of_decide_eq_true (List.all_eq_true.mp h d hd)
def sp_law (K : PySem.W.Frag) : Sp := fun vs H Q _ => ∃ (A : Addr) (ns : List Int), vs = [.ref A] ∧ SqL K H A (ns.map V.int) ∧ ns.length ≤ 63 ∧ ∀ H', Q (.bl true) H'
theorem ok_law (T : Txt K mg) : TopOk P w K mg base CX0 (He.ga K "law") T.fd_law "script" (sp_law K) := by
  refine top_ok T.F_law sc_law (k := 5) ⟨rfl, by decide, by decide⟩ (fun cdv s H v Q E hr h => ?_)
  · obtain ⟨A, sc, rv, hA, hl, q⟩ := h
    cases rv
    refine ⟨_, PSs.nox (pss_cons (ps_par (i := 1) (j := 2) (by rfl) sc_law.nd rfl rfl (by decide) rfl rfl (pa_cons (pe_call (ok_law_rng T) (hr.mono (by decide)) rfl T.g_law_rng T.F_law_rng.kp (b_law_rng T) .nil pass0 (pa_cons (pv 0) pa_nil)) (pa_cons (pe_call0 (ok_law_masks T) (hr.mono (by decide)) rfl T.g_law_masks T.F_law_masks.kp (b_law_masks T) .nil pass0) pa_nil)) (by rfl))
      (pss_cons (ps_for PassesOwn.never rfl (pi_range1 (by rfl) T.b_range (pa_cons (pe_op op_add pe_int (pe_callB (call_minI rfl) (by rfl) T.b_min (by decide +kernel) (pa_cons pe_int (pa_cons (pe_callB (show CallR _ _ (rLenQ K) from call_lenQ) (by rfl) T.b_len PySem.boot_len (pa_cons (pv 0) pa_nil)) pa_nil)))) pa_nil)) (pg_name (i := 3) sc_law.nd rfl (Or.inl rfl)) (pss_cons (ps_set (i := 4) sc_law.nd rfl (Or.inl rfl) (pe_call (ok_law_moves T) (hr.mono (by decide)) rfl T.g_law_moves T.F_law_moves.kp (b_law_moves T) .nil pass0 (pa_cons (pv 1) (pa_cons (pe_ix (show IxR _ (rIxL K) from ix_list) (pe_lst (pa_cons pe_int (pa_cons pe_int (pa_cons pe_int pa_nil)))) (pe_call (ok_law_draw T) (hr.mono (by decide)) rfl T.g_law_draw T.F_law_draw.kp (b_law_draw T) .nil pass0 (pa_cons (pv 1) (pa_cons pe_int pa_nil))) (fun _ _ => rfl)) pa_nil))))
      (pss_cons (ps_set (i := 5) sc_law.nd rfl (Or.inl rfl) (pe_call (ok_law_one T) (hr.mono (by decide)) rfl T.g_law_one T.F_law_one.kp (b_law_one T) .nil pass0 (pa_cons (pv 1) (pa_cons (pe_call (ok_law_draw T) (hr.mono (by decide)) rfl T.g_law_draw T.F_law_draw.kp (b_law_draw T) .nil pass0 (pa_cons (pv 1) (pa_cons pe_int pa_nil))) pa_nil))))
      (pss_cons (ps_if (pt_cmpR op_gt (pe_call (ok_law_draw T) (hr.mono (by decide)) rfl T.g_law_draw T.F_law_draw.kp (b_law_draw T) .nil pass0 (pa_cons (pv 1) (pa_cons pe_int pa_nil))) pe_int (nomark _)) (pss_one (ps_set (i := 5) sc_law.nd rfl (Or.inl rfl) (pe_op op_sub (pe_op op_mul pe_int (pe_op op_sub (pe_call (ok_law_draw T) (hr.mono (by decide)) rfl T.g_law_draw T.F_law_draw.kp (b_law_draw T) .nil pass0 (pa_cons (pv 1) (pa_cons pe_int pa_nil))) pe_int)) (pe_callB (show CallR _ _ (rSum K) from (cr_sum rfl)) (by rfl) T.b_sum (by decide +kernel) (pa_cons (pv 4) pa_nil))))) pss_nil)
      (pss_one (ps_for PassesOwn.never rfl (show PI _ _ _ (iList K _) from pi_list (pe_lst (pa_cons (pv 4) (pa_cons (pe_op op_cat (pv 4) (pe_lst (pa_cons (pv 5) pa_nil))) pa_nil)))) (pg_name (i := 6) sc_law.nd rfl (Or.inl rfl)) (pss_cons (ps_par (i := 7) (j := 8) (by rfl) sc_law.nd rfl rfl (by decide) rfl rfl (pa_cons (pe_callB (show CallR _ _ (rRepr K) from (call_reprD rfl hr)) (by rfl) T.b_repr (by decide +kernel) (pa_cons (pv 6) pa_nil)) (pa_cons (pe_call (ok_law_needs T) (hr.mono (by decide)) rfl T.g_law_needs T.F_law_needs.kp (b_law_needs T) .nil pass0 (pa_cons (pv 2) (pa_cons (pv 6) pa_nil))) pa_nil)) (by rfl))
      (pss_cons (ps_set (i := 9) sc_law.nd rfl (Or.inl rfl) (pe_ifExp (PW.pt (pw_or (pt_cmpR (show OpR _ _ (rNeD K) from (op_neD hr.units)) (pv 8) (pe_op op_rep (pe_lst (pa_cons pe_int pa_nil)) pe_int) (nomark _)) (pw_or1 (pt_cmpR op_neI (pe_callB (show CallR _ _ (rSum K) from (cr_sum rfl)) (by rfl) T.b_sum (by decide +kernel) (pa_cons (pv 6) pa_nil)) pe_int (nomark _))))) (pe_op op_add pe_int (pe_callB (show CallR _ _ (rSum K) from (cr_sum rfl)) (by rfl) T.b_sum (by decide +kernel) (pa_cons (pv 8) pa_nil))) pe_int))
      (pss_cons (ps_set (i := 10) sc_law.nd rfl (Or.inl rfl) (pe_lst (pa_cons (pe_call (ok_fewest_steps T) (hr.mono (by decide)) rfl T.g_fewest_steps T.F_fewest_steps.kp (b_fewest_steps T) .nil pass0 (pa_cons (pv 6) pa_nil)) (pa_cons (pe_callN0 (ok_fewest_steps T) (hr.mono (by decide)) rfl T.g_fewest_steps T.F_fewest_steps.kp (kb_fewest_steps_0_steps T) pass0 (pk_cons (pv 6) pk_nil)) pa_nil))))
      (pss_cons (ps_if (PW.pt (pw_and (pt_cmpR (show OpR _ _ (rIn K false) from op_in_seq) pe_int (pv 8) (by rfl)) (pw_and1 (PW.pt (pw_or (pt_cmpR op_lt (pe_ix (show IxR _ (rIxL K) from ix_list) (pv 10) pe_int (fun _ _ => rfl)) (pv 9) (nomark _)) (pw_or1 (pt_cmpR op_neI (pe_ix (show IxR _ (rIxL K) from ix_list) (pv 10) pe_int (fun _ _ => rfl)) (pe_ix (show IxR _ (rIxL K) from ix_list) (pv 10) pe_int (fun _ _ => rfl)) (nomark _)))))))) (pss_one (ps_ret pe_bl)) pss_nil)
      (pss_one (ps_if (PW.pt (pw_or (PW.pt (pw_and (pt_cmpR (show OpR _ _ (rIn K true) from op_notIn_seq) pe_int (pv 8) (by rfl)) (pw_and1 (pt_cmpR op_ne (pe_callB (show CallR _ _ (rRepr K) from (call_reprD rfl hr)) (by rfl) T.b_repr (by decide +kernel) (pa_cons (pv 10) pa_nil)) (pe_callB (show CallR _ _ (rRepr K) from (call_reprD rfl hr)) (by rfl) T.b_repr (by decide +kernel) (pa_cons (pe_lst (pa_cons (pv 9) (pa_cons (pv 9) pa_nil))) pa_nil)) (nomark _))))) (pw_or1 (pt_cmpR op_ne (pe_callB (show CallR _ _ (rRepr K) from (call_reprD rfl hr)) (by rfl) T.b_repr (by decide +kernel) (pa_cons (pv 6) pa_nil)) (pv 7) (nomark _))))) (pss_one (ps_ret pe_bl)) pss_nil))))))))))))
      (pss_cons (ps_for PassesOwn.never rfl (show PI _ _ _ (iList K _) from pi_list (pe_lst (pa_cons (pe_lst (pa_cons (pe_op op_pow pe_int pe_int) pa_nil)) (pa_cons (pe_lst (pa_cons (pe_op op_pow pe_int pe_int) (pa_cons (pe_op op_sub pe_int (pe_op op_pow pe_int pe_int)) pa_nil))) (pa_cons (pe_lst (pa_cons (pe_op op_sub pe_int (pe_op op_pow pe_int pe_int)) (pa_cons pe_int (pa_cons (pe_op op_pow pe_int pe_int) pa_nil)))) pa_nil))))) (pg_name (i := 6) sc_law.nd rfl (Or.inl rfl)) (pss_cons (ps_set (i := 8) sc_law.nd rfl (Or.inl rfl) (pe_call (ok_law_needs T) (hr.mono (by decide)) rfl T.g_law_needs T.F_law_needs.kp (b_law_needs T) .nil pass0 (pa_cons (pv 2) (pa_cons (pv 6) pa_nil))))
      (pss_one (ps_if (pt_cmpR op_neI (pe_call (ok_fewest_steps T) (hr.mono (by decide)) rfl T.g_fewest_steps T.F_fewest_steps.kp (b_fewest_steps T) .nil pass0 (pa_cons (pv 6) pa_nil)) (pe_ifExp (PW.pt (pw_or (pt_cmpR (show OpR _ _ (rNeD K) from (op_neD hr.units)) (pv 8) (pe_op op_rep (pe_lst (pa_cons pe_int pa_nil)) pe_int) (nomark _)) (pw_or1 (pt_cmpR op_neI (pe_callB (show CallR _ _ (rSum K) from (cr_sum rfl)) (by rfl) T.b_sum (by decide +kernel) (pa_cons (pv 6) pa_nil)) pe_int (nomark _))))) (pe_op op_add pe_int (pe_callB (show CallR _ _ (rSum K) from (cr_sum rfl)) (by rfl) T.b_sum (by decide +kernel) (pa_cons (pv 8) pa_nil))) pe_int) (nomark _)) (pss_one (ps_ret pe_bl)) pss_nil))))
      (pss_one (ps_ret (pe_cmpR (show OpR _ _ (rEqD K) from (op_eqD hr.units)) (pe_lst (pa_cons (pe_call (ok_fewest_steps T) (hr.mono (by decide)) rfl T.g_fewest_steps T.F_fewest_steps.kp (b_fewest_steps T) .nil pass0 (pa_cons (pe_lst pa_nil) pa_nil)) (pa_cons (pe_call (ok_fewest_steps T) (hr.mono (by decide)) rfl T.g_fewest_steps T.F_fewest_steps.kp (b_fewest_steps T) .nil pass0 (pa_cons (pe_lst (pa_cons pe_int (pa_cons pe_int pa_nil))) pa_nil)) (pa_cons (pe_call (ok_fewest_steps T) (hr.mono (by decide)) rfl T.g_fewest_steps T.F_fewest_steps.kp (b_fewest_steps T) .nil pass0 (pa_cons (pe_lst (pa_cons pe_int pa_nil)) pa_nil)) (pa_cons (pe_call (ok_fewest_steps T) (hr.mono (by decide)) rfl T.g_fewest_steps T.F_fewest_steps.kp (b_fewest_steps T) .nil pass0 (pa_cons (pe_lst (pa_cons pe_int (pa_cons (pe_un un_neg pe_int) pa_nil))) pa_nil)) pa_nil))))) (pe_lst (pa_cons pe_int (pa_cons pe_int (pa_cons pe_int (pa_cons pe_int pa_nil))))) (nomark _))))))), ?_⟩
    rw [start_law]
    repeat cell_call
    refine ⟨A, sc, rfl, hA, fun S H0 nS sm0 P0 => ?_⟩
    repeat cell_call
    intro B H1 nB sm1 hB
    have smA := same_tr sm1 sm0
    have P1 := P0.same sm1
    have hA1 := smA.seq hA
    have nB0 := same_free nB sm0
    have eB := P0.ne nB
    clear sm0 sm1 P0 nB
    repeat cell_call
    refine ⟨by omega, by omega, fR (fun i σ' H' => Same H H' ∧ RngAt H' S (2000 * i) ∧ H' B = some (.lst (msk.map V.int)) ∧ ∃ a b c d e f g h, σ' = [some (.ref A), some (.ref S), some (.ref B), a, b, c, d, e, f, g, h]) ⟨smA, P1.mono (by omega), hB, none, none, none, none, none, none, none, none, rfl⟩ (fun i σ1 H2 hi e => ?_) (fun σ1 H2 e => ?_)⟩
    · clear smA P1 hA1 hB
      obtain ⟨sm, P, hB, a', b', c', d', e', f', g', h', rfl⟩ := e
      have hi2 : i < 6 := by omega
      generalize hc : (2000 * (i : Int)) = c0 at *
      have c1 : c0 ≤ 120000 := by omega
      clear hi
      repeat cell_call
      intro X nX
      have eX := P.ne nX
      have P2 := P.new (o := .lst [.int 2, .int 4, .int 5]) nX
      have hX : (upd H2 X (.lst [.int 2, .int 4, .int 5])) X = some (.lst (([2, 4, 5] : List Int).map V.int)) := upd_same
      have sm2 : Same H (upd H2 X (.lst [.int 2, .int 4, .int 5])) := same_trN nX sm
      have hB2 := hp_ne (o' := .lst [.int 2, .int 4, .int 5]) (ne_of_none hB nX) hB
      generalize upd H2 X (.lst [.int 2, .int 4, .int 5]) = H3 at *
      clear P sm nX hB
      repeat cell_call
      refine ⟨S, _, _, rfl, P2, by omega, by decide, by decide, fun r H4 r0 r1 P4 F4 => ?_⟩
      have hX4 := F4 _ _ eX hX
      have hB4 := F4 _ _ eB hB2
      have sm4 := Same.by sm2 nS F4
      clear P2 sm2 F4 hX hB2 eX
      refine st_ixP (SqL.of hX4) (isI_map _) r0 (by simp only [List.length_cons, List.length_nil]; omega) fun m hm => ?_
      replace hm := List.mem_of_getElem? hm
      simp only [List.mem_cons, List.not_mem_nil, or_false] at hm
      clear hX4 r0 r1
      repeat cell_call
      refine ⟨S, _, _, rfl, P4, by omega, by omega, by omega, fun M ms H5 nM P5 F5 hM lm bm => ?_⟩
      have eM := P4.ne nM
      have hB5 := F5 _ _ eB hB4
      have sm5 := Same.by sm4 nS F5
      have lm2 : ms.length ≤ 5 := by omega
      clear P4 sm4 F5 nM hm lm hB4
      repeat cell_call
      refine ⟨S, _, _, rfl, P5, by omega, by decide, by decide, fun kd H6 k0 k1 P6 F6 => ?_⟩
      have hB6 := F6 _ _ eB hB5
      have hM6 := F6 _ _ eM hM
      have sm6 := Same.by sm5 nS F6
      clear P5 sm5 F6 hB5 hM
      repeat cell_call
      refine ⟨S, _, _, rfl, P6, by omega, by omega, by omega, fun last H7 o0 o1 P7 F7 => ?_⟩
      have hB7 := F7 _ _ eB hB6
      have hM7 := F7 _ _ eM hM6
      have sm7 := Same.by sm6 nS F7
      clear P6 sm6 F7 hB6 hM6
      have sb := sum_b2 (b := 1000000000000000000000000000000000) bm
      repeat k_ownIn
      refine st_cutS (fun σ' H' => ∃ l : Int, σ' = [some (.ref A), some (.ref S), some (.ref B), some (.int (0 + i)), some (.ref M), some (.int l), d', e', f', g', h'] ∧ (-6000000000000000000000000000000000 ≤ l ∧ l ≤ 6000000000000000000000000000000000) ∧ Same H H' ∧ RngAt H' S (c0 + 2000) ∧ H' B = some (.lst (msk.map V.int)) ∧ H' M = some (.lst (ms.map V.int))) (fun σ' H' e => ?_) (fun nx' hnx => ?_)
      · clear sm7 P7 hB7 hM7 o0 o1 sb
        obtain ⟨l, rfl, lb, sm, P, hB, hM⟩ := e
        have mvM : Mv ms := ⟨by omega, fun k hk => by
          have := bm k hk
          have p : (1000000000000000000000000000000001 : Nat) < 2 ^ 200 := by decide
          omega⟩
        have mvW : Mv (ms ++ [l]) := ⟨by rw [List.length_append]; show ms.length + 1 ≤ 10; omega, fun k hk => by
          have p : (6000000000000000000000000000000001 : Nat) < 2 ^ 200 := by decide
          rcases List.mem_append.mp hk with hk | hk
          · have := bm k hk
            omega
          · rw [List.mem_singleton.mp hk]
            omega⟩
        repeat cell_call
        intro N nN
        have hN : (upd H' N (.lst [.int l])) N = some (.lst (([l] : List Int).map V.int)) := upd_same
        have eN := P.ne nN
        have P8 := P.new (o := .lst [.int l]) nN
        have hB8 := hp_ne (o' := .lst [.int l]) (ne_of_none hB nN) hB
        have hM8 := hp_ne (o' := .lst [.int l]) (ne_of_none hM nN) hM
        have sm8 : Same H (upd H' N (.lst [.int l])) := same_trN nN sm
        generalize upd H' N (.lst [.int l]) = H8 at *
        clear nN P hB hM sm
        refine st_catI (ns := ms) (ms := [l]) hM8 hN (by show ms.length + 1 < 100000; omega) fun W nW => ?_
        have hW : (upd H8 W (.lst ((ms ++ [l]).map V.int))) W = some (.lst ((ms ++ [l]).map V.int)) := upd_same
        have eW := P8.ne nW
        have P9 := P8.new (o := .lst ((ms ++ [l]).map V.int)) nW
        have hB9 := hp_ne (o' := .lst ((ms ++ [l]).map V.int)) (ne_of_none hB8 nW) hB8
        have hM9 := hp_ne (o' := .lst ((ms ++ [l]).map V.int)) (ne_of_none hM8 nW) hM8
        have sm9 : Same H (upd H8 W (.lst ((ms ++ [l]).map V.int))) := same_trN nW sm8
        generalize upd H8 W (.lst ((ms ++ [l]).map V.int)) = H9 at *
        clear nW P8 hB8 hM8 sm8 hN eN
        generalize ms ++ [l] = ws at *
        repeat cell_call
        intro G nG
        have hG : (upd H9 G (.lst [.ref M, .ref W])) G = some (.lst [.ref M, .ref W]) := upd_same
        have PA := P9.new (o := .lst [.ref M, .ref W]) nG
        have hBA := hp_ne (o' := .lst [.ref M, .ref W]) (ne_of_none hB9 nG) hB9
        have hMA := hp_ne (o' := .lst [.ref M, .ref W]) (ne_of_none hM9 nG) hM9
        have hWA := hp_ne (o' := .lst [.ref M, .ref W]) (ne_of_none hW nG) hW
        have smA : Same H (upd H9 G (.lst [.ref M, .ref W])) := same_trN nG sm9
        generalize upd H9 G (.lst [.ref M, .ref W]) = HA at *
        clear nG P9 hB9 hM9 hW sm9
        repeat cell_call
        refine ⟨⟨_, SqL.of hG⟩, fL (xs := [.ref M, .ref W]) (fun j σ' H' => Same H H' ∧ RngAt H' S (c0 + 2000) ∧ H' B = some (.lst (msk.map V.int)) ∧ H' M = some (.lst (ms.map V.int)) ∧ H' W = some (.lst (ws.map V.int)) ∧ H' G = some (.lst [.ref M, .ref W]) ∧ ∃ a b c d e, σ' = [some (.ref A), some (.ref S), some (.ref B), some (.int (0 + i)), some (.ref M), some (.int l), a, b, c, d, e]) ⟨smA, PA, hBA, hMA, hWA, hG, _, _, _, _, _, rfl⟩ (fun j σ' H' _ e => SqL.of e.2.2.2.2.2.1) (fun j x σ' HB hx e => ?_) (fun σ' HB e => ?_)⟩
        · clear smA PA hBA hMA hWA hG
          obtain ⟨sm, P, hB, hM, hW, hG, a, b, c, d, e', rfl⟩ := e
          have key : ∃ p L, x = .ref p ∧ HB p = some (.lst (L.map V.int)) ∧ Mv L := by
            match j, hx with
            | 0, hx =>
              cases hx
              exact ⟨M, ms, rfl, hM, mvM⟩
            | 1, hx =>
              cases hx
              exact ⟨W, ws, rfl, hW, mvW⟩
          obtain ⟨p, L, rfl, hp, mv⟩ := key
          clear hx mvM mvW
          repeat cell_call
          refine st_repr (dp_intL (SqL.of hp)) (tx_mv mv) (by decide) (dep_mv L) ?_
          repeat cell_call
          refine ⟨B, p, L, rfl, SqL.of hB, SqL.of hp, by have := mv.1; omega, fun q es HC nq s hq ne => ?_⟩
          have PC := P.same s
          have smC := same_tr s sm
          replace hB := s _ _ hB
          replace hM := s _ _ hM
          replace hW := s _ _ hW
          replace hG := s _ _ hG
          replace hp := s _ _ hp
          have dk := due_ok ne
          have el : es.length = 12 := ne.len
          clear nq s P sm ne
          repeat k_ownIn
          refine st_cutK (fun v H' => v = .int (due L es) ∧ Same HC H') (fun v HD e => ?_) (fun C' hk => ?_)
          · obtain ⟨rfl, s⟩ := e
            have PD := PC.same s
            have smD := same_tr s smC
            replace hB := s _ _ hB
            replace hM := s _ _ hM
            replace hW := s _ _ hW
            replace hG := s _ _ hG
            replace hp := s _ _ hp
            replace hq := s _ _ hq
            clear s PC smC
            generalize due L es = du at *
            repeat cell_call
            refine ⟨p, L, rfl, SqL.of hp, by have := mv.1; omega, fun HE s => ?_⟩
            have PE := PD.same s
            have smE := same_tr s smD
            replace hB := s _ _ hB
            replace hM := s _ _ hM
            replace hW := s _ _ hW
            replace hG := s _ _ hG
            replace hp := s _ _ hp
            replace hq := s _ _ hq
            clear s PD smD
            repeat cell_call
            refine ⟨p, L, rfl, SqL.of hp, by have := mv.1; omega, fun HF s => ?_⟩
            have PF := PE.same s
            have smF := same_tr s smE
            replace hB := s _ _ hB
            replace hM := s _ _ hM
            replace hW := s _ _ hW
            replace hG := s _ _ hG
            replace hp := s _ _ hp
            replace hq := s _ _ hq
            clear s PE smE
            repeat cell_call
            intro T nT
            have s : Same HF (upd HF T (.lst [.int (fw L), .int (fw L)])) := Same.new nT
            have hT : (upd HF T (.lst [.int (fw L), .int (fw L)])) T = some (.lst (([fw L, fw L] : List Int).map V.int)) := upd_same
            have PG := PF.same s
            have smG := same_tr s smF
            replace hB := s _ _ hB
            replace hM := s _ _ hM
            replace hW := s _ _ hW
            replace hG := s _ _ hG
            replace hp := s _ _ hp
            replace hq := s _ _ hq
            generalize upd HF T (.lst [.int (fw L), .int (fw L)]) = HH at *
            clear s PF smF nT
            have mv2 := mv_two L
            have fb := fw_bd L
            generalize fw L = f at *
            repeat k_ownIn
            refine st_cutS (fun σ' H' => σ' = [some (.ref A), some (.ref S), some (.ref B), some (.int (0 + i)), some (.ref M), some (.int l), some (.ref p), some (.str (PyData.list (L.map PyData.int)).shown), some (.ref q), some (.int du), some (.ref T)] ∧ HH = H') (fun σ' H' e => ?_) (fun nx' hnx => ?_)
            · obtain ⟨rfl, rfl⟩ := e
              have fin : ∀ H', Same HH H' → (Same H H' ∧ RngAt H' S (c0 + 2000) ∧ H' B = some (.lst (msk.map V.int)) ∧ H' M = some (.lst (ms.map V.int)) ∧ H' W = some (.lst (ws.map V.int)) ∧ H' G = some (.lst [.ref M, .ref W]) ∧ ∃ a b c d e, [some (.ref A), some (.ref S), some (.ref B), some (.int (0 + i)), some (.ref M), some (.int l), some (.ref p), some (.str (PyData.list (L.map PyData.int)).shown), some (.ref q), some (.int du), some (.ref T)] = [some (V.ref A), some (.ref S), some (.ref B), some (.int (0 + i)), some (.ref M), some (.int l), a, b, c, d, e]) := fun H' s => ⟨same_tr s smG, PG.same s, s _ _ hB, s _ _ hM, s _ _ hW, s _ _ hG, _, _, _, _, _, rfl⟩
              clear smG PG hB hM hW hG
              repeat cell_call
              refine st_notIn (SqL.of hq) ?_
              repeat cell_call
              refine st_iND (fun h3 => ?_) (fun h3 => ?_)
              · have ef := dk.1 h3
                clear dk
                subst du
                repeat cell_call
                refine st_repr (dp_intL (SqL.of hT)) (tx_mv mv2) (by decide) (dep_mv _) ?_
                repeat cell_call
                intro U nU
                have s : Same HH (upd HH U (.lst [.int f, .int f])) := Same.new nU
                have hU : (upd HH U (.lst [.int f, .int f])) U = some (.lst (([f, f] : List Int).map V.int)) := upd_same
                replace hp := s _ _ hp
                generalize upd HH U (.lst [.int f, .int f]) = HI at *
                repeat cell_call
                refine st_repr (dp_intL (SqL.of hU)) (tx_mv mv2) (by decide) (dep_mv _) ?_
                repeat cell_call
                refine st_repr (dp_intL (SqL.of hp)) (tx_mv mv) (by decide) (dep_mv L) ?_
                repeat cell_call
                exact fin _ s
              · repeat cell_call
                refine st_repr (dp_intL (SqL.of hp)) (tx_mv mv) (by decide) (dep_mv L) ?_
                repeat cell_call
                exact fin _ (Same.refl _)
            · have e := hnx _ _ ⟨rfl, rfl⟩
              clear hnx smG PG hB hM hW hG
              repeat cell_call
              refine st_inI (SqL.of hq) ?_
              repeat cell_call
              refine st_iD (fun h3 => ?_) (fun h3 => ?_)
              · have le := dk.2
                repeat cell_call
                refine st_iDF (by omega) ?_
                repeat cell_call
                exact e
              · repeat cell_call
                exact e
          · clear PC smC hB hM hW hG
            repeat cell_call
            intro Z nZ
            have hZ : (upd HC Z (.lst [.int 0])) Z = some (.lst [.int 0]) := upd_same
            have s1 : Same HC (upd HC Z (.lst [.int 0])) := Same.new nZ
            generalize upd HC Z (.lst [.int 0]) = HD at *
            repeat cell_call
            refine st_rep hZ (by decide) (by decide) (by decide) fun Y nY => ?_
            have hY : (upd HD Y (.lst (List.replicate (12 : Int).toNat [V.int 0]).flatten)) Y = some (.lst ((List.replicate 12 (0 : Int)).map V.int)) := upd_same
            have s2 : Same HC (upd HD Y (.lst (List.replicate (12 : Int).toNat [V.int 0]).flatten)) := same_trN nY s1
            generalize upd HD Y (.lst (List.replicate (12 : Int).toNat [V.int 0]).flatten) = HE at *
            clear nZ nY hZ s1
            replace hq := s2 _ _ hq
            replace hp := s2 _ _ hp
            refine st_neI (SqL.of hq) (SqL.of hY) ?_
            clear hY
            repeat cell_call
            refine st_iND (fun h1 => ?_) (fun h1 => ?_)
            · repeat cell_call
              refine ⟨q, es, rfl, SqL.of hq, ?_⟩
              repeat cell_call
              exact hk _ _ ⟨by unfold due; rw [if_pos (.inl h1)], s2⟩
            · repeat cell_call
              refine ⟨p, L, rfl, SqL.of hp, ?_⟩
              repeat cell_call
              refine st_iND (fun h2 => ?_) (fun h2 => ?_)
              · repeat cell_call
                refine ⟨q, es, rfl, SqL.of hq, ?_⟩
                repeat cell_call
                exact hk _ _ ⟨by unfold due; rw [if_pos (.inr h2)], s2⟩
              · repeat cell_call
                exact hk _ _ ⟨by unfold due; rw [if_neg fun z => z.elim (fun y => y h1) fun y => y h2], s2⟩
        · obtain ⟨sm, P, hB, _, _, _, a, b, c, d, e', rfl⟩ := e
          exact ⟨sm, P.mono (by omega), hB, _, _, _, _, _, _, _, _, rfl⟩
      · repeat cell_call
        refine ⟨S, _, _, rfl, P7, by omega, by decide, by decide, fun r H8 r0 r1 P8 F8 => ?_⟩
        have hB8 := F8 _ _ eB hB7
        have hM8 := F8 _ _ eM hM7
        have sm8 := Same.by sm7 nS F8
        clear P7 sm7 F8 hB7 hM7
        repeat cell_call
        refine st_iD (fun h1 => ?_) (fun h1 => ?_)
        · repeat cell_call
          refine ⟨S, _, _, rfl, P8, by omega, by decide, by decide, fun r2 H9 r20 r21 P9 F9 => ?_⟩
          have hB9 := F9 _ _ eB hB8
          have hM9 := F9 _ _ eM hM8
          have sm9 := Same.by sm8 nS F9
          clear P8 sm8 F9 hB8 hM8
          repeat cell_call
          refine ⟨M, ms, rfl, SqL.of hM9, ?_⟩
          repeat cell_call
          exact hnx _ _ ⟨_, rfl, ⟨by omega, by omega⟩, sm9, P9.mono (by omega), hB9, hM9⟩
        · repeat cell_call
          exact hnx _ _ ⟨_, rfl, ⟨by omega, by omega⟩, sm8, P8.mono (by omega), hB8, hM8⟩
    · clear smA P1 hA1 hB
      obtain ⟨sm, P, hB, a, b, c, d, e, f, g, h, rfl⟩ := e
      clear P
      repeat cell_call
      intro L1 n1
      have s : Same H2 (upd H2 L1 (.lst [.int 1000000000000000000000000000000])) := Same.new n1
      have g1 : (upd H2 L1 (.lst [.int 1000000000000000000000000000000])) L1 = some (.lst (([1000000000000000000000000000000] : List Int).map V.int)) := upd_same
      replace hB := s _ _ hB
      replace sm := same_tr s sm
      generalize upd H2 L1 (.lst [.int 1000000000000000000000000000000]) = I1 at *
      clear s n1
      repeat cell_call
      intro L2 n2
      have s : Same I1 (upd I1 L2 (.lst [.int 1000000000000000000000000000000, .int (0 - 1000000000000000000000000000000)])) := Same.new n2
      have g2 : (upd I1 L2 (.lst [.int 1000000000000000000000000000000, .int (0 - 1000000000000000000000000000000)])) L2 = some (.lst (([1000000000000000000000000000000, 0 - 1000000000000000000000000000000] : List Int).map V.int)) := upd_same
      replace hB := s _ _ hB
      replace g1 := s _ _ g1
      replace sm := same_tr s sm
      generalize upd I1 L2 (.lst [.int 1000000000000000000000000000000, .int (0 - 1000000000000000000000000000000)]) = I2 at *
      clear s n2
      repeat cell_call
      intro L3 n3
      have s : Same I2 (upd I2 L3 (.lst [.int (0 - 1000000000000000000000000000000), .int 5, .int 1000000000000000000000000000000])) := Same.new n3
      have g3 : (upd I2 L3 (.lst [.int (0 - 1000000000000000000000000000000), .int 5, .int 1000000000000000000000000000000])) L3 = some (.lst (([0 - 1000000000000000000000000000000, 5, 1000000000000000000000000000000] : List Int).map V.int)) := upd_same
      replace hB := s _ _ hB
      replace g1 := s _ _ g1
      replace g2 := s _ _ g2
      replace sm := same_tr s sm
      generalize upd I2 L3 (.lst [.int (0 - 1000000000000000000000000000000), .int 5, .int 1000000000000000000000000000000]) = I3 at *
      clear s n3
      repeat cell_call
      intro G n4
      have s : Same I3 (upd I3 G (.lst [.ref L1, .ref L2, .ref L3])) := Same.new n4
      have hG : (upd I3 G (.lst [.ref L1, .ref L2, .ref L3])) G = some (.lst [.ref L1, .ref L2, .ref L3]) := upd_same
      replace hB := s _ _ hB
      replace g1 := s _ _ g1
      replace g2 := s _ _ g2
      replace g3 := s _ _ g3
      replace sm := same_tr s sm
      generalize upd I3 G (.lst [.ref L1, .ref L2, .ref L3]) = I4 at *
      clear s n4
      repeat cell_call
      refine ⟨⟨_, SqL.of hG⟩, fL (xs := [.ref L1, .ref L2, .ref L3]) (fun j σ' H' => Same H H' ∧ H' B = some (.lst (msk.map V.int)) ∧ H' L1 = some (.lst (([1000000000000000000000000000000] : List Int).map V.int)) ∧ H' L2 = some (.lst (([1000000000000000000000000000000, 0 - 1000000000000000000000000000000] : List Int).map V.int)) ∧ H' L3 = some (.lst (([0 - 1000000000000000000000000000000, 5, 1000000000000000000000000000000] : List Int).map V.int)) ∧ H' G = some (.lst [.ref L1, .ref L2, .ref L3]) ∧ ∃ a b c d e f g h, σ' = [some (.ref A), some (.ref S), some (.ref B), a, b, c, d, e, f, g, h]) ⟨sm, hB, g1, g2, g3, hG, _, _, _, _, _, _, _, _, rfl⟩ (fun j σ' H' _ e => SqL.of e.2.2.2.2.2.1) (fun j x σ' HB hx e => ?_) (fun σ' HB e => ?_)⟩
      · clear sm hB g1 g2 g3 hG
        obtain ⟨sm, hB, g1, g2, g3, hG, a, b, c, d, e', f, g, h, rfl⟩ := e
        have key : ∃ p L, x = .ref p ∧ HB p = some (.lst (L.map V.int)) ∧ L.length ≤ 10 ∧ ∀ d ∈ ndL L 12, d ≤ 2 := by
          match j, hx with
          | 0, hx =>
            cases hx
            exact ⟨L1, _, rfl, g1, by decide, few_of few_1⟩
          | 1, hx =>
            cases hx
            exact ⟨L2, _, rfl, g2, by decide, few_of few_2⟩
          | 2, hx =>
            cases hx
            exact ⟨L3, _, rfl, g3, by decide, few_of few_3⟩
        obtain ⟨p, L, rfl, hp, ll, few⟩ := key
        clear hx
        repeat cell_call
        refine ⟨B, p, L, rfl, SqL.of hB, SqL.of hp, by omega, fun q es HC nq s hq ne => ?_⟩
        have n3 := ne.few few
        have dk := (due_ok ne).1 n3
        clear n3 few
        replace sm := same_tr s sm
        replace hB := s _ _ hB
        replace g1 := s _ _ g1
        replace g2 := s _ _ g2
        replace g3 := s _ _ g3
        replace hG := s _ _ hG
        replace hp := s _ _ hp
        clear nq s ne
        repeat k_ownIn
        show tIfS _ _ _ _ _ _
        refine st_cutS (fun σ' H' => (∃ a b c d e f g h, σ' = [some (.ref A), some (.ref S), some (.ref B), a, b, c, d, e, f, g, h]) ∧ Same HC H') (fun σ' HD e => ?_) (fun nx' hnx => ?_)
        · obtain ⟨⟨a, b, c, d, e', f, g, h, rfl⟩, s⟩ := e
          exact ⟨same_tr s sm, s _ _ hB, s _ _ g1, s _ _ g2, s _ _ g3, s _ _ hG, _, _, _, _, _, _, _, _, rfl⟩
        · clear hB g1 g2 g3 hG sm
          repeat cell_call
          refine ⟨p, L, rfl, SqL.of hp, by omega, fun HE s => ?_⟩
          replace hp := s _ _ hp
          replace hq := s _ _ hq
          repeat k_ownIn
          show tIf _ _ _ _ _ _
          refine st_cutK (fun v H' => v = .int (fw L) ∧ Same HC H') (fun v HD e => ?_) (fun C' hk => ?_)
          · obtain ⟨rfl, s⟩ := e
            repeat cell_call
            exact hnx _ _ ⟨⟨_, _, _, _, _, _, _, _, rfl⟩, s⟩
          · repeat cell_call
            intro Z nZ
            have hZ : (upd HE Z (.lst [.int 0])) Z = some (.lst [.int 0]) := upd_same
            have s1 : Same HE (upd HE Z (.lst [.int 0])) := Same.new nZ
            generalize upd HE Z (.lst [.int 0]) = HF at *
            repeat cell_call
            refine st_rep hZ (by decide) (by decide) (by decide) fun Y nY => ?_
            have hY : (upd HF Y (.lst (List.replicate (12 : Int).toNat [V.int 0]).flatten)) Y = some (.lst ((List.replicate 12 (0 : Int)).map V.int)) := upd_same
            have s2 : Same HE (upd HF Y (.lst (List.replicate (12 : Int).toNat [V.int 0]).flatten)) := same_trN nY s1
            generalize upd HF Y (.lst (List.replicate (12 : Int).toNat [V.int 0]).flatten) = HH at *
            clear nZ nY hZ s1
            replace hq := s2 _ _ hq
            replace hp := s2 _ _ hp
            have s3 := same_tr s2 s
            refine st_neI (SqL.of hq) (SqL.of hY) ?_
            clear hY
            repeat cell_call
            refine st_iND (fun h1 => ?_) (fun h1 => ?_)
            · repeat cell_call
              refine ⟨q, es, rfl, SqL.of hq, ?_⟩
              repeat cell_call
              exact hk _ _ ⟨by rw [← dk]; unfold due; rw [if_pos (.inl h1)], s3⟩
            · repeat cell_call
              refine ⟨p, L, rfl, SqL.of hp, ?_⟩
              repeat cell_call
              refine st_iND (fun h2 => ?_) (fun h2 => ?_)
              · repeat cell_call
                refine ⟨q, es, rfl, SqL.of hq, ?_⟩
                repeat cell_call
                exact hk _ _ ⟨by rw [← dk]; unfold due; rw [if_pos (.inr h2)], s3⟩
              · repeat cell_call
                exact hk _ _ ⟨by rw [← dk]; unfold due; rw [if_neg fun z => z.elim (fun y => y h1) fun y => y h2], s3⟩
      · clear sm hB g1 g2 g3 hG
        obtain ⟨sm, hB, g1, g2, g3, hG, a, b, c, d, e', f, g, h, rfl⟩ := e
        clear hB g1 g2 g3 hG sm
        repeat cell_call
        intro Z1 n1
        refine ⟨Z1, [], rfl, SqL.of upd_same, by decide, fun K1 s1 => ?_⟩
        clear n1 s1
        repeat cell_call
        intro Z2 n2
        refine ⟨Z2, [0, 0], rfl, SqL.of upd_same, by decide, fun K2 s2 => ?_⟩
        clear n2 s2
        repeat cell_call
        intro Z3 n3
        refine ⟨Z3, [4800], rfl, SqL.of upd_same, by decide, fun K3 s3 => ?_⟩
        clear n3 s3
        repeat cell_call
        intro Z4 n4
        refine ⟨Z4, [4800, -4800], rfl, SqL.of upd_same, by decide, fun K4 s4 => ?_⟩
        clear n4 s4
        repeat cell_call
        rw [fw_0, fw_00, fw_1, fw_2]
        intro R nR
        have hR : (upd K4 R (.lst [.int 0, .int 0, .int 1, .int 0])) R = some (.lst (([0, 0, 1, 0] : List Int).map V.int)) := upd_same
        generalize upd K4 R (.lst [.int 0, .int 0, .int 1, .int 0]) = K5 at *
        repeat cell_call
        intro R2 nR2
        refine st_eqI (SqL.of (hp_ne (ne_of_none hR nR2) hR)) (SqL.of (show (upd K5 R2 (.lst [.int 0, .int 0, .int 1, .int 0])) R2 = some (.lst (([0, 0, 1, 0] : List Int).map V.int)) from upd_same)) ?_
        repeat cell_call
        exact q _

end
end Mc
namespace Mc
open PySem PySem.Spec PyProof.Rows L2

def d_sums_of : He.DefD := ⟨("sums_of", none), "sums_of", "sums_of", defArgs s_sums_of, defBody s_sums_of, defScope s_sums_of, [], []⟩
def d_years_by_remainder : He.DefD := ⟨("years_by_remainder", none), "years_by_remainder", "years_by_remainder", defArgs s_years_by_remainder, defBody s_years_by_remainder, defScope s_years_by_remainder, [], []⟩
def d_normal_years : He.DefD := ⟨("normal_years", none), "normal_years", "normal_years", defArgs s_normal_years, defBody s_normal_years, defScope s_normal_years, [], []⟩
def d_class_of : He.DefD := ⟨("class_of", none), "class_of", "class_of", defArgs s_class_of, defBody s_class_of, defScope s_class_of, [], []⟩
def d_missing_in_class : He.DefD := ⟨("missing_in_class", none), "missing_in_class", "missing_in_class", defArgs s_missing_in_class, defBody s_missing_in_class, defScope s_missing_in_class, [], []⟩
def d_missing_years : He.DefD := ⟨("missing_years", none), "missing_years", "missing_years", defArgs s_missing_years, defBody s_missing_years, defScope s_missing_years, [], []⟩
def d_shortest_list : He.DefD := ⟨("shortest_list", none), "shortest_list", "shortest_list", defArgs s_shortest_list, defBody s_shortest_list, defScope s_shortest_list, [], []⟩
def d_fewest_steps : He.DefD := ⟨("fewest_steps", none), "fewest_steps", "fewest_steps", defArgs s_fewest_steps, defBody s_fewest_steps, defScope s_fewest_steps, [], []⟩
def d_law_rng : He.DefD := ⟨("_law_rng", none), "_law_rng", "_law_rng", defArgs s_law_rng, defBody s_law_rng, defScope s_law_rng, [], []⟩
def d_law_draw : He.DefD := ⟨("_law_draw", none), "_law_draw", "_law_draw", defArgs s_law_draw, defBody s_law_draw, defScope s_law_draw, [], []⟩
def d_law_one : He.DefD := ⟨("_law_one", none), "_law_one", "_law_one", defArgs s_law_one, defBody s_law_one, defScope s_law_one, [], []⟩
def d_law_moves : He.DefD := ⟨("_law_moves", none), "_law_moves", "_law_moves", defArgs s_law_moves, defBody s_law_moves, defScope s_law_moves, [], []⟩
def d_law_is_leap : He.DefD := ⟨("_law_is_leap", none), "_law_is_leap", "_law_is_leap", defArgs s_law_is_leap, defBody s_law_is_leap, defScope s_law_is_leap, [], []⟩
def d_law_sums : He.DefD := ⟨("_law_sums", none), "_law_sums", "_law_sums", defArgs s_law_sums, defBody s_law_sums, defScope s_law_sums, [], []⟩
def d_law_masks : He.DefD := ⟨("_law_masks", none), "_law_masks", "_law_masks", defArgs s_law_masks, defBody s_law_masks, defScope s_law_masks, [], []⟩
def d_law_joined : He.DefD := ⟨("_law_joined", none), "_law_joined", "_law_joined", defArgs s_law_joined, defBody s_law_joined, defScope s_law_joined, [], []⟩
def d_law_extra : He.DefD := ⟨("_law_extra", none), "_law_extra", "_law_extra", defArgs s_law_extra, defBody s_law_extra, defScope s_law_extra, [], []⟩
def d_law_needs : He.DefD := ⟨("_law_needs", none), "_law_needs", "_law_needs", defArgs s_law_needs, defBody s_law_needs, defScope s_law_needs, [], []⟩
def d_law : He.DefD := ⟨("law", none), "law", "law", defArgs s_law, defBody s_law, defScope s_law, [], []⟩
def fnL : List He.DefD := [d_sums_of, d_years_by_remainder, d_normal_years, d_class_of, d_missing_in_class, d_missing_years, d_shortest_list, d_fewest_steps, d_law_rng, d_law_draw, d_law_one, d_law_moves, d_law_is_leap, d_law_sums, d_law_masks, d_law_joined, d_law_extra, d_law_needs, d_law]
def faL : List He.Fa := [.glo "sums_of", .glo "years_by_remainder", .glo "normal_years", .glo "class_of", .glo "missing_in_class", .glo "missing_years", .glo "shortest_list", .glo "fewest_steps", .glo "_law_rng", .glo "_law_draw", .glo "_law_one", .glo "_law_moves", .glo "_law_is_leap", .glo "_law_sums", .glo "_law_masks", .glo "_law_joined", .glo "_law_extra", .glo "_law_needs", .glo "law", .free "abs", .free "all", .free "len", .free "list", .free "min", .free "range", .free "repr", .free "set", .free "sorted", .free "sum", .free "zip", .int "CLASSES" (25), .int "MONTHS" (12), .int "QUARTERS" (100), .glo "ALL_FORBIDDEN"]
def exL : PySem.W.Frag → Bool := fun K => He.tupB K "ALL_FORBIDDEN" [.int (0), .int (1)]
abbrev RW : PySem.W.OpenRow := PySem.W.OpenLaw.row PySem.Challenge.rw_monthclamp_k14_fewest_steps_by_search
abbrev hkL : PySem.W.Hook := He.hookX 4 faL fnL [] [] exL
def obL (s : PySem.W.SharedT) : He.AlX := He.obsX 4 faL fnL [] [] exL (HandSHeadRun.getT s)
theorem obL_eq (s : PySem.W.SharedT) : obL s = hkL.obs s.abs := He.obsX_eq (HandSHeadRun.getT_eq s)
abbrev loL : List Str := (["sums_of", "MONTHS", "CLASSES", "QUARTERS", "ALL_FORBIDDEN", "years_by_remainder", "normal_years", "class_of", "missing_in_class", "missing_years", "shortest_list", "fewest_steps", "_law_rng", "_law_draw", "_law_one", "_law_moves", "_law_is_leap", "_law_sums", "_law_masks", "_law_joined", "_law_extra", "_law_needs"] : List Str)
theorem runL (w : World) : HandSHeadRun.RunEq RW (PySem.W.view RW.prog [26]) hkL obL 3000 loL w := by
  intro os
  kernel_rfl
section
variable {K : PySem.W.Frag} {mg : Str → Option Value} {h : Heap} {w : World}
theorem txt_of (X : K.In h) (G : h.Ns mainGlobals mg) (c : He.SaysX faL fnL [] [] exL w h K) : ∃ _ : Txt K mg, True := by
  obtain ⟨fd0, F0⟩ := c.t.d.def_ 0 (d := d_sums_of) rfl
  obtain ⟨fd1, F1⟩ := c.t.d.def_ 1 (d := d_years_by_remainder) rfl
  obtain ⟨fd2, F2⟩ := c.t.d.def_ 2 (d := d_normal_years) rfl
  obtain ⟨fd3, F3⟩ := c.t.d.def_ 3 (d := d_class_of) rfl
  obtain ⟨fd4, F4⟩ := c.t.d.def_ 4 (d := d_missing_in_class) rfl
  obtain ⟨fd5, F5⟩ := c.t.d.def_ 5 (d := d_missing_years) rfl
  obtain ⟨fd6, F6⟩ := c.t.d.def_ 6 (d := d_shortest_list) rfl
  obtain ⟨fd7, F7⟩ := c.t.d.def_ 7 (d := d_fewest_steps) rfl
  obtain ⟨fd8, F8⟩ := c.t.d.def_ 8 (d := d_law_rng) rfl
  obtain ⟨fd9, F9⟩ := c.t.d.def_ 9 (d := d_law_draw) rfl
  obtain ⟨fd10, F10⟩ := c.t.d.def_ 10 (d := d_law_one) rfl
  obtain ⟨fd11, F11⟩ := c.t.d.def_ 11 (d := d_law_moves) rfl
  obtain ⟨fd12, F12⟩ := c.t.d.def_ 12 (d := d_law_is_leap) rfl
  obtain ⟨fd13, F13⟩ := c.t.d.def_ 13 (d := d_law_sums) rfl
  obtain ⟨fd14, F14⟩ := c.t.d.def_ 14 (d := d_law_masks) rfl
  obtain ⟨fd15, F15⟩ := c.t.d.def_ 15 (d := d_law_joined) rfl
  obtain ⟨fd16, F16⟩ := c.t.d.def_ 16 (d := d_law_extra) rfl
  obtain ⟨fd17, F17⟩ := c.t.d.def_ 17 (d := d_law_needs) rfl
  obtain ⟨fd18, F18⟩ := c.t.d.def_ 18 (d := d_law) rfl
  obtain ⟨t0, c0⟩ := He.int_ok X G (c.t.d.fact 30 (f := .int "CLASSES" (25)) rfl)
  obtain ⟨t1, c1⟩ := He.int_ok X G (c.t.d.fact 31 (f := .int "MONTHS" (12)) rfl)
  obtain ⟨t2, c2⟩ := He.int_ok X G (c.t.d.fact 32 (f := .int "QUARTERS" (100)) rfl)
  exact ⟨{ g_sums_of := He.glo_ok X G (c.t.d.fact 0 (f := .glo "sums_of") rfl), fd_sums_of := fd0, F_sums_of := F0, g_years_by_remainder := He.glo_ok X G (c.t.d.fact 1 (f := .glo "years_by_remainder") rfl), fd_years_by_remainder := fd1, F_years_by_remainder := F1, g_normal_years := He.glo_ok X G (c.t.d.fact 2 (f := .glo "normal_years") rfl), fd_normal_years := fd2, F_normal_years := F2, g_class_of := He.glo_ok X G (c.t.d.fact 3 (f := .glo "class_of") rfl), fd_class_of := fd3, F_class_of := F3, g_missing_in_class := He.glo_ok X G (c.t.d.fact 4 (f := .glo "missing_in_class") rfl), fd_missing_in_class := fd4, F_missing_in_class := F4, g_missing_years := He.glo_ok X G (c.t.d.fact 5 (f := .glo "missing_years") rfl), fd_missing_years := fd5, F_missing_years := F5, g_shortest_list := He.glo_ok X G (c.t.d.fact 6 (f := .glo "shortest_list") rfl), fd_shortest_list := fd6, F_shortest_list := F6, g_fewest_steps := He.glo_ok X G (c.t.d.fact 7 (f := .glo "fewest_steps") rfl), fd_fewest_steps := fd7, F_fewest_steps := F7, g_law_rng := He.glo_ok X G (c.t.d.fact 8 (f := .glo "_law_rng") rfl), fd_law_rng := fd8, F_law_rng := F8, g_law_draw := He.glo_ok X G (c.t.d.fact 9 (f := .glo "_law_draw") rfl), fd_law_draw := fd9, F_law_draw := F9, g_law_one := He.glo_ok X G (c.t.d.fact 10 (f := .glo "_law_one") rfl), fd_law_one := fd10, F_law_one := F10, g_law_moves := He.glo_ok X G (c.t.d.fact 11 (f := .glo "_law_moves") rfl), fd_law_moves := fd11, F_law_moves := F11, g_law_is_leap := He.glo_ok X G (c.t.d.fact 12 (f := .glo "_law_is_leap") rfl), fd_law_is_leap := fd12, F_law_is_leap := F12, g_law_sums := He.glo_ok X G (c.t.d.fact 13 (f := .glo "_law_sums") rfl), fd_law_sums := fd13, F_law_sums := F13, g_law_masks := He.glo_ok X G (c.t.d.fact 14 (f := .glo "_law_masks") rfl), fd_law_masks := fd14, F_law_masks := F14, g_law_joined := He.glo_ok X G (c.t.d.fact 15 (f := .glo "_law_joined") rfl), fd_law_joined := fd15, F_law_joined := F15, g_law_extra := He.glo_ok X G (c.t.d.fact 16 (f := .glo "_law_extra") rfl), fd_law_extra := fd16, F_law_extra := F16, g_law_needs := He.glo_ok X G (c.t.d.fact 17 (f := .glo "_law_needs") rfl), fd_law_needs := fd17, F_law_needs := F17, g_law := He.glo_ok X G (c.t.d.fact 18 (f := .glo "law") rfl), fd_law := fd18, F_law := F18, b_abs := He.free_ok X G (c.t.d.fact 19 (f := .free "abs") rfl), b_all := He.free_ok X G (c.t.d.fact 20 (f := .free "all") rfl), b_len := He.free_ok X G (c.t.d.fact 21 (f := .free "len") rfl), b_list := He.free_ok X G (c.t.d.fact 22 (f := .free "list") rfl), b_min := He.free_ok X G (c.t.d.fact 23 (f := .free "min") rfl), b_range := He.free_ok X G (c.t.d.fact 24 (f := .free "range") rfl), b_repr := He.free_ok X G (c.t.d.fact 25 (f := .free "repr") rfl), b_set := He.free_ok X G (c.t.d.fact 26 (f := .free "set") rfl), b_sorted := He.free_ok X G (c.t.d.fact 27 (f := .free "sorted") rfl), b_sum := He.free_ok X G (c.t.d.fact 28 (f := .free "sum") rfl), b_zip := He.free_ok X G (c.t.d.fact 29 (f := .free "zip") rfl), c_CLASSES := ⟨t0, c0⟩, c_MONTHS := ⟨t1, c1⟩, c_QUARTERS := ⟨t2, c2⟩, g_ALL_FORBIDDEN := He.glo_ok X G (c.t.d.fact 33 (f := .glo "ALL_FORBIDDEN") rfl), t_ALL_FORBIDDEN := fun H => He.tupB_ok c.more H }, trivial⟩
end
end Mc
open PySem PySem.W PySem.Calls PyProof.Rows
set_option maxRecDepth 100000 in
set_option maxHeartbeats 0 in
theorem PySem.Challenge.cw_monthclamp_k14_fewest_steps_by_search_holds : PySem.Challenge.rw_monthclamp_k14_fewest_steps_by_search.Holds := by
  w_on; o_law
  refine HandSHeadRun.head_any (r := Mc.RW) (q := view Mc.RW.prog [26]) (H := Mc.hkL) (ob := Mc.obL) (M := 3000) (loose := Mc.loL) (d := HandSHeadRun.topDef Mc.RW.prog 26) (kwd := []) Mc.obL_eq
    (by kernel_rfl) (fun s => by kernel_rfl) Mc.runL (by kernel_rfl) (by kernel_rfl) (by kernel_rfl) (by rfl) (by first | assumption | decide +kernel) (by decide +kernel) ⟨rfl, rfl, rfl, rfl, rfl, by decide +kernel⟩ ?hw ?hc
  case hw => w_witness2
  case hc =>
    refine Mc.walk_top (l := PySem.Challenge.rw_monthclamp_k14_fewest_steps_by_search) (n := 63) (x := "script") (CX := L2.CX0) rfl (by decide) (by kernel_rfl) ?F (fun _ _ _ _ z => z)
    intro w mg fa h Y G hmg0
    obtain ⟨K, KX, c⟩ := Y
    have hmg : mg ("law" : PySem.Str) = some (.ref fa) := by
      have e : (HandSHeadRun.topDef Mc.RW.prog 26).name = ("law" : PySem.Str) := by kernel_rfl
      rw [← e]
      exact hmg0
    obtain ⟨T, _⟩ := Mc.txt_of KX G c
    have e := hmg.symm.trans T.g_law
    cases e
    exact ⟨K, T.fd_law, Mc.sp_law K, KX, fun s v => L2.FunD.bindsA (ps := ["script"]) T.F_law (fun _ _ _ _ _ _ us hl => match us, hl with | [_], _ => rfl) s [v] rfl, fun H a ns hl hS => ⟨a, ns, rfl, hS, hl, fun _ => rfl⟩, fun base _ _ => Mc.ok_law T⟩
